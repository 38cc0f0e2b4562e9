import PyProof.Rows.All
import Wide.All
import OpenK.AllK
import Wide.FinOn
import HandS.ForMost
import HandS.ForExc
import HandS.Deep
import HandS.Style
import HandS.SortInts
import HandS.More
import HandS.Flow
import KE.KeyNested
import HandS.TupAny
import HandS.Wide
import HandS.SortOrd
import HandS.Exc
import HandS.ExcOwn
import KE.GoesZip
import KE.GoesEnum
import KE.GoesEnumKw
import KE.KDictZip
import PyProof.ListNew
import HandS.ListItems
import HandS.Head2
import HandS.HeadEnd
import HandS.HeadHook1
import HandS.HeadHook2
import HandS.IsInst
import KE.KRevSl
import KE.KTryMore
import HandS.ExcCtx
import HandS.Keys
import KE.KExcInit
import HandS.ExcInit
import HandS.FStr
import HandS.FStrTup
import PyProof.ReprRoads
import PyProof.CallFns
import HandS.ExcField
import HandS.ExcIs
import HandS.Conv
import HandS.TryOnly
import HandS.TupSets
import HandS.List
import KE.KSortTup
import HandS.SortRule
import HandS.TupMul
import PyProof.CallStr
import PyProof.ReprLen
import HandS.SetFor
import KE.KDictDisplayH
import HandS.TupLen
import HandS.DictSubView
import KE.KSortTupG
import KE.KDictMeth
import HandS.TupLe
import HandS.SortKw
import KE.KSortKey
import HandS.DictTup
import KE.KDictCopyH
import KE.KDictSum
import KE.KDictPairs
import KE.KEqDict
import PySem.Challenge.RW_overlooks_k35_cycles_shown_or_not
set_option Elab.async false
set_option linter.all false
set_option maxRecDepth 100000
set_option maxHeartbeats 4000000
set_option autoImplicit false
namespace DL
open PySem PySem.Spec PyProof.Rows L2
/-- what an own cell holds -/
inductive Ct where
  | dead
  | lst (ds : List PyData)
  | dK (kvs : List (Key × PyData))
  | dT (kvs : List (List Key × PyData))
  | dN (kvs : List (NestedKey × PyData))
  | dL (kvs : List (NestedKey × PyData))
  | dF (kvs : List (Key × PyData))
/-- an error: its class (a class of the text), its own fields -/
structure Xn where
  cls : Str
  fld : List (Str × PyData)
/-- a value: data, the own cell j, the script, an error, a shared dict -/
inductive R where
  | d (x : PyData)
  | o (j : Nat)
  | s (ns : List Int)
  | x (n : Xn)
  | m (ct : Ct)
  | l (js : List Nat)
  | f (j : Nat) (ds : List PyData)
structure G where
  sl : List (Option R)
  ce : List Ct
abbrev DE := G → (R → G → Prop) → Prop
abbrev DT := G → (Bool → G → Prop) → Prop
abbrev DA := G → (List R → G → Prop) → Prop
structure DEnds where
  nx : G → Prop
  rt : R → G → Prop
  bk : G → Prop := fun _ => False
  ct : G → Prop := fun _ => False
abbrev DS := DEnds → G → Prop
abbrev DG := R → G → (G → Prop) → Prop
mutual
/-- v is the data x, every list and tuple tracked in B -/
inductive Dq (B : Hp) : V → PyData → Prop
  | non : Dq B .non .none
  | bl (b : Bool) : Dq B (.bl b) (.bool b)
  | int (i : Int) : Dq B (.int i) (.int i)
  | str (x : Str) : Dq B (.str x) (.str x)
  | lst {a : Addr} {xs : List V} {ds : List PyData} : B a = some (.lst xs) → DqAll B xs ds → Dq B (.ref a) (.list ds)
  | tup {a : Addr} {xs : List V} {ds : List PyData} : B a = some (.tup xs) → DqAll B xs ds → Dq B (.ref a) (.tuple ds)
inductive DqAll (B : Hp) : List V → List PyData → Prop
  | nil : DqAll B [] []
  | cons {v : V} {vs : List V} {d : PyData} {ds : List PyData} : Dq B v d → DqAll B vs ds → DqAll B (v :: vs) (d :: ds)
end
/-- where the def itself stands: its callers' facts, as they were when it was called -/
structure Root where
  B : Hp
  O : Hp
  P : List Addr
  cl : Str → Addr
structure KR where
  fr : PySem.W.Frag
  rt : Root
/-- an error's own fields -/
def XnF (B : Hp) (n : Xn) (d : Option Addr) : Prop := n.fld = [] ∧ d = none ∨ ∃ d0 us, d = some d0 ∧ B d0 = some (.xd us) ∧ Paired (fun (p : Str × V) (q : Str × PyData) => p.1 = q.1 ∧ Dq B p.2 q.2) us n.fld
/-- an error that has been caught: its record -/
def excO (a C : Addr) (d : Option Addr) : HO := .ext fun h => ∃ (o : Obj) (vs : Array Value), h.get? a = some o ∧ o.cls = .ref C ∧ o.dict = d ∧ o.data = .fields vs
mutual
def plainN : NestedKey → Bool
  | .num _ => true
  | .tup ks => plainNs ks
  | _ => false
def plainNs : List NestedKey → Bool
  | [] => true
  | k :: ks => plainN k && plainNs ks
end
def entN (w : World) (x : NestedKey × Addr × Value) : DictEntry := ⟨x.1.hash w, .ref x.2.1, x.2.2⟩
abbrev NV (us : List (NestedKey × Addr × V)) (zs : List (NestedKey × Addr × Value)) : Prop := Paired (fun (p : NestedKey × Addr × V) (q : NestedKey × Addr × Value) => p.1 = q.1 ∧ p.2.1 = q.2.1 ∧ RelV p.2.2 q.2.2) us zs
/-- a dict whose keys are tuples of whole numbers, nested -/
def dnP (a : Addr) (us : List (NestedKey × Addr × V)) (h : Heap) : Prop := us.length ≤ sizeLine ∧ (a == sysModules) = false ∧ (∀ u ∈ us, plainN u.1 = true ∧ u.1.depth ≤ 8) ∧ (us.map (·.1)).Nodup ∧ ∃ zs, NV us zs ∧
  ∃ o es ep, h.get? a = some o ∧ o.ExactDict ∧ o.data = .dict es ep ∧ ∀ w : World, es.toList = zs.map (entN w)
def dnO (a : Addr) (us : List (NestedKey × Addr × V)) : HO := .ext (dnP a us)
abbrev NOk (B : Hp) : List (NestedKey × Addr × V) → List (NestedKey × PyData) → Prop := Paired fun (p : NestedKey × Addr × V) (q : NestedKey × PyData) => p.1 = q.1 ∧ Dq B (.ref p.2.1) p.1.data ∧ Dq B p.2.2 q.2
def CtOk (K : KR) (B : Hp) (al : List Addr) (H : Hp) (a : Addr) : Ct → Prop
  | .dead => ∃ o, H a = some o ∧ ∀ us, o ≠ .tup us
  | .lst ds => ∃ xs, H a = some (.lst xs) ∧ DqAll B xs ds
  | .dK kvs => ∃ us, H a = some (.dK us) ∧ Paired (fun (p : Key × V) (q : Key × PyData) => p.1 = q.1 ∧ Dq B p.2 q.2) us kvs
  | .dT kvs => ∃ us, H a = some (.dT us) ∧ Paired (fun (p : List Key × V) (q : List Key × PyData) => p.1 = q.1 ∧ Dq B p.2 q.2) us kvs
  | .dN kvs => ∃ us, H a = some (dnO a us) ∧ NOk B us kvs
  | .dL kvs => ∃ o us, H a = some (.frz o (dnO a us)) ∧ NOk B us kvs
  | .dF kvs => ∃ o us, H a = some (.frz o (.dK us)) ∧ Paired (fun (p : Key × V) (q : Key × PyData) => p.1 = q.1 ∧ Dq B p.2 q.2) us kvs
def RvOk (K : KR) (B : Hp) (al : List Addr) (v : V) : R → Prop
  | .d x => Dq B v x
  | .s ns => ∃ a, v = .ref a ∧ SqL K.fr B a (ns.map V.int)
  | .o j => ∃ a, al[j]? = some a ∧ v = .ref a
  | .x n => ∃ a d, v = .ref a ∧ B a = some (excO a (K.rt.cl n.cls) d) ∧ XnF B n d
  | .m ct => ∃ a, v = .ref a ∧ ct ≠ .dead ∧ CtOk K B al B a ct
  | .l js => ∃ p xs, v = .ref p ∧ B p = some (.lst xs) ∧ Paired (fun (x : V) (j : Nat) => ∃ a, al[j]? = some a ∧ x = V.ref a) xs js
  | .f j ds => ∃ p xs, al[j]? = some p ∧ v = .ref p ∧ B p = some (.lst xs) ∧ DqAll B xs ds
/-- the callers: shared facts, own things, the cells handed in -/
structure Fm where
  B : Hp
  O : Hp
  P : List Addr
structure Stt (K : KR) (F : Fm) (g : G) (ts : List (V × R)) (s : L2.St) (H B : Hp) (al : List Addr) : Prop where
  rb : Same K.rt.B F.B
  ro : ∀ a o, K.rt.O a = some o → F.O a = some o
  rp : ∃ t, F.P = K.rt.P ++ t
  ot : ∀ a us, F.O a ≠ some (.tup us)
  fb : Same F.B B
  bh : Same B H
  fo : ∀ a o, F.O a = some o → H a = some o ∧ B a = none ∧ a ∉ al
  pre : ∃ t, al = F.P ++ t
  len : al.length = g.ce.length
  nd : al.Nodup
  lv : ∀ a ∈ al, ∃ o, H a = some o
  nb : ∀ (j : Nat) (a : Addr) (ct : Ct), al[j]? = some a → g.ce[j]? = some ct → ct ≠ Ct.dead → B a = none
  ce : ∀ (j : Nat) (a : Addr) (ct : Ct), al[j]? = some a → g.ce[j]? = some ct → CtOk K B al H a ct
  sl : ∀ (i : Nat) (r : R), g.sl[i]? = some (some r) → ∃ v, s[i]? = some (some v) ∧ RvOk K B al v r
  tm : ∀ p ∈ ts, RvOk K B al p.1 p.2
  sln : g.sl.length = s.length
theorem same_l {K : PySem.W.Frag} {H H' : Hp} {a : Addr} {xs : List V} (e : Same H H') (h : SqL K H a xs) : SqL K H' a xs := e.seq h
theorem same_t {K : PySem.W.Frag} {H H' : Hp} {a : Addr} {xs : List V} (e : Same H H') (h : SqT K H a xs) : SqT K H' a xs := by
  rcases h with (h | ⟨o, h⟩) | h
  · exact .inl (.inl (e _ _ h))
  · exact .inl (.inr ⟨o, e _ _ h⟩)
  · exact .inr h
mutual
theorem dq_mono {H H' : Hp} (e : Same H H') : ∀ {v : V} {x : PyData}, Dq H v x → Dq H' v x
  | _, _, .non => .non
  | _, _, .bl b => .bl b
  | _, _, .int i => .int i
  | _, _, .str x => .str x
  | _, _, .lst h r => .lst (e _ _ h) (dqall_mono e r)
  | _, _, .tup h r => .tup (e _ _ h) (dqall_mono e r)
theorem dqall_mono {H H' : Hp} (e : Same H H') : ∀ {vs : List V} {xs : List PyData}, DqAll H vs xs → DqAll H' vs xs
  | _, _, .nil => .nil
  | _, _, .cons a b => .cons (dq_mono e a) (dqall_mono e b)
end
mutual
theorem dq_dp {K : PySem.W.Frag} {H : Hp} : ∀ {v : V} {x : PyData}, Dq H v x → Dp K H v x
  | _, _, .non => .non
  | _, _, .bl b => .bl b
  | _, _, .int i => .int i
  | _, _, .str x => .str x
  | _, _, .lst h r => .lst (.inl (.inl h)) (dqall_dp r)
  | _, _, .tup h r => .tup (.inl (.inl h)) (dqall_dp r)
theorem dqall_dp {K : PySem.W.Frag} {H : Hp} : ∀ {vs : List V} {xs : List PyData}, DqAll H vs xs → DpAll K H vs xs
  | _, _, .nil => .nil
  | _, _, .cons a b => .cons (dq_dp a) (dqall_dp b)
end
theorem same_new {H : Hp} {p : Addr} {o : HO} (h : H p = none) : Same H (upd H p o) := fun b x e => by
  rw [upd_ne (ne_of_none e h)]
  exact e
theorem same_mut {H H' : Hp} {p : Addr} {o : HO} (e : Same H H') (h : H p = none) : Same H (upd H' p o) := fun b x q => by
  rw [upd_ne (ne_of_none q h)]
  exact e _ _ q
theorem paired_imp {α β : Type} {F F' : α → β → Prop} (h : ∀ a b, F a b → F' a b) : ∀ {xs : List α} {ys : List β}, Paired F xs ys → Paired F' xs ys
  | _, _, .nil => .nil
  | _, _, .cons a b => .cons (h _ _ a) (paired_imp h b)
/-- a cell's fact under a growing base, the cell itself as it was -/
theorem ct_mono {K : KR} {B B' H H' : Hp} {al t : List Addr} {a : Addr} {ct : Ct} (e : Same B B') (hh : ∀ o, H a = some o → H' a = some o) (h : CtOk K B al H a ct) : CtOk K B' (al ++ t) H' a ct := by
  cases ct with
  | dead =>
    obtain ⟨o, h1, h2⟩ := h
    exact ⟨o, hh _ h1, h2⟩
  | lst rs =>
    obtain ⟨xs, h1, h2⟩ := h
    exact ⟨xs, hh _ h1, dqall_mono e h2⟩
  | dK kvs =>
    obtain ⟨xs, h1, h2⟩ := h
    exact ⟨xs, hh _ h1, paired_imp (fun _ _ z => ⟨z.1, dq_mono e z.2⟩) h2⟩
  | dT kvs =>
    obtain ⟨xs, h1, h2⟩ := h
    exact ⟨xs, hh _ h1, paired_imp (fun _ _ z => ⟨z.1, dq_mono e z.2⟩) h2⟩
  | dN kvs =>
    obtain ⟨xs, h1, h2⟩ := h
    exact ⟨xs, hh _ h1, paired_imp (fun _ _ z => ⟨z.1, dq_mono e z.2.1, dq_mono e z.2.2⟩) h2⟩
  | dL kvs =>
    obtain ⟨o, xs, h1, h2⟩ := h
    exact ⟨o, xs, hh _ h1, paired_imp (fun _ _ z => ⟨z.1, dq_mono e z.2.1, dq_mono e z.2.2⟩) h2⟩
  | dF kvs =>
    obtain ⟨o, xs, h1, h2⟩ := h
    exact ⟨o, xs, hh _ h1, paired_imp (fun _ _ z => ⟨z.1, dq_mono e z.2⟩) h2⟩
theorem ct_mono0 {K : KR} {B B' H H' : Hp} {al : List Addr} {a : Addr} {ct : Ct} (e : Same B B') (hh : ∀ o, H a = some o → H' a = some o) (h : CtOk K B al H a ct) : CtOk K B' al H' a ct := by
  have z := ct_mono (t := []) e hh h
  rw [List.append_nil] at z
  exact z
theorem ct_box {K : KR} {B H : Hp} {al : List Addr} {a : Addr} {ct : Ct} (h : CtOk K B al H a ct) : ∃ o, H a = some o ∧ ∀ us, o ≠ .tup us := by
  cases ct with
  | dead => exact h
  | lst rs => obtain ⟨xs, h1, _⟩ := h; exact ⟨_, h1, fun us z => nomatch z⟩
  | dK rs => obtain ⟨xs, h1, _⟩ := h; exact ⟨_, h1, fun us z => nomatch z⟩
  | dT rs => obtain ⟨xs, h1, _⟩ := h; exact ⟨_, h1, fun us z => nomatch z⟩
  | dN rs => obtain ⟨xs, h1, _⟩ := h; exact ⟨_, h1, fun us z => nomatch z⟩
  | dL rs => obtain ⟨_, xs, h1, _⟩ := h; exact ⟨_, h1, fun us z => nomatch z⟩
  | dF rs => obtain ⟨_, xs, h1, _⟩ := h; exact ⟨_, h1, fun us z => nomatch z⟩
theorem xnf_mono {B B' : Hp} {n : Xn} {d : Option Addr} (e : Same B B') : XnF B n d → XnF B' n d := fun h => by
  rcases h with h | ⟨d0, us, h1, h2, h3⟩
  · exact .inl h
  · exact .inr ⟨d0, us, h1, e _ _ h2, paired_imp (fun _ _ z => ⟨z.1, dq_mono e z.2⟩) h3⟩
theorem rv_mono {K : KR} {B B' : Hp} {al t : List Addr} {v : V} {r : R} (e : Same B B') (h : RvOk K B al v r) : RvOk K B' (al ++ t) v r := by
  cases r with
  | d x => exact dq_mono e h
  | s ns =>
    obtain ⟨a, hv, h2⟩ := h
    exact ⟨a, hv, same_l e h2⟩
  | o j =>
    obtain ⟨a, ha, hv⟩ := h
    refine ⟨a, ?_, hv⟩
    rw [List.getElem?_append_left (List.getElem?_eq_some_iff.mp ha).1]
    exact ha
  | x n =>
    obtain ⟨a, d, hv, h1, h2⟩ := h
    exact ⟨a, d, hv, e _ _ h1, xnf_mono e h2⟩
  | m ct =>
    obtain ⟨a, hv, h1, h2⟩ := h
    exact ⟨a, hv, h1, ct_mono e (fun o q => e _ _ q) h2⟩
  | l js =>
    obtain ⟨p, xs, hv, h1, h2⟩ := h
    refine ⟨p, xs, hv, e _ _ h1, ?_⟩
    clear h1 hv
    induction h2 with
    | nil => exact .nil
    | cons a b ih =>
      obtain ⟨q, hq, ev⟩ := a
      exact .cons ⟨q, by rw [List.getElem?_append_left (List.getElem?_eq_some_iff.mp hq).1]; exact hq, ev⟩ ih
  | f j ds =>
    obtain ⟨p, xs, ha, hv, h1, h2⟩ := h
    exact ⟨p, xs, by rw [List.getElem?_append_left (List.getElem?_eq_some_iff.mp ha).1]; exact ha, hv, e _ _ h1, dqall_mono e h2⟩
theorem rv_mono0 {K : KR} {B B' : Hp} {al : List Addr} {v : V} {r : R} (e : Same B B') (h : RvOk K B al v r) : RvOk K B' al v r := by
  have z := rv_mono (t := []) e h
  rw [List.append_nil] at z
  exact z
section
variable {K : KR} {F : Fm} {g : G} {tm tm' : List (V × R)} {s : L2.St} {H B : Hp} {al : List Addr}
theorem Stt.temps (S : Stt K F g tm s H B al) (h : ∀ p ∈ tm', p ∈ tm) : Stt K F g tm' s H B al := { S with tm := fun p q => S.tm p (h p q) }
theorem Stt.push (S : Stt K F g tm s H B al) {v : V} {r : R} (h : RvOk K B al v r) : Stt K F g ((v, r) :: tm) s H B al :=
  { S with tm := fun p q => (List.mem_cons.mp q).elim (fun e => by rw [e]; exact h) (fun e => S.tm p e) }
theorem Stt.top (S : Stt K F g tm s H B al) {p : V × R} {t : List (V × R)} (e : tm = p :: t) : RvOk K B al p.1 p.2 := S.tm p (by rw [e]; exact List.mem_cons_self)
theorem Stt.new_out (S : Stt K F g tm s H B al) {p : Addr} (h : H p = none) : p ∉ al := fun q => by
  obtain ⟨o, e⟩ := S.lv p q
  rw [e] at h
  cases h
/-- a new shared object (the base grows) -/
theorem Stt.grow (S : Stt K F g tm s H B al) {p : Addr} {o : HO} (h : H p = none) : Stt K F g tm s (upd H p o) (upd B p o) al := by
  have hB : B p = none := S.bh.free h
  have eB : Same B (upd B p o) := same_new hB
  have eH : Same H (upd H p o) := same_new h
  have nal := S.new_out h
  refine { rb := S.rb, ro := S.ro, rp := S.rp, ot := S.ot, fb := S.fb.trans eB, bh := ?_, fo := ?_, pre := S.pre, len := S.len, nd := S.nd, lv := ?_, nb := ?_, ce := ?_, sl := ?_, tm := ?_, sln := S.sln }
  · intro b u e
    by_cases hb : b = p
    · subst hb; rw [upd_same] at e ⊢; exact e
    · rw [upd_ne hb] at e ⊢; exact S.bh _ _ e
  · intro a u e
    obtain ⟨h1, h2, h3⟩ := S.fo a u e
    have ne : a ≠ p := ne_of_none h1 h
    exact ⟨eH _ _ h1, by rw [upd_ne ne]; exact h2, h3⟩
  · intro a ha
    obtain ⟨u, e⟩ := S.lv a ha
    exact ⟨u, eH _ _ e⟩
  · intro j a ct h1 h2 h3
    have ne : a ≠ p := fun z => nal (z ▸ List.mem_of_getElem? h1)
    rw [upd_ne ne]
    exact S.nb j a ct h1 h2 h3
  · intro j a ct h1 h2
    exact ct_mono0 eB (fun u e => eH _ _ e) (S.ce j a ct h1 h2)
  · intro i r e
    obtain ⟨v, h1, h2⟩ := S.sl i r e
    exact ⟨v, h1, rv_mono0 eB h2⟩
  · intro q hq
    exact rv_mono0 eB (S.tm q hq)
/-- a new own cell -/
theorem Stt.own (S : Stt K F g tm s H B al) {p : Addr} {o : HO} {ct : Ct} (h : H p = none) (hc : CtOk K B al (upd H p o) p ct) : Stt K F { g with ce := g.ce ++ [ct] } tm s (upd H p o) B (al ++ [p]) := by
  have hB : B p = none := S.bh.free h
  have eH : Same H (upd H p o) := same_new h
  have nal := S.new_out h
  obtain ⟨t, ht⟩ := S.pre
  refine { rb := S.rb, ro := S.ro, rp := S.rp, ot := S.ot, fb := S.fb, bh := S.bh.trans eH, fo := ?_, pre := ⟨t ++ [p], by rw [ht, List.append_assoc]⟩, len := by rw [List.length_append, List.length_append, S.len]; rfl, nd := ?_, lv := ?_, nb := ?_, ce := ?_, sl := ?_, tm := ?_, sln := S.sln }
  · intro a u e
    obtain ⟨h1, h2, h3⟩ := S.fo a u e
    refine ⟨eH _ _ h1, h2, fun z => ?_⟩
    rcases List.mem_append.mp z with z | z
    · exact h3 z
    · rw [List.mem_singleton.mp z, h] at h1
      cases h1
  · refine List.nodup_append.mpr ⟨S.nd, by simp, fun a ha b hb => ?_⟩
    rw [List.mem_singleton.mp hb]
    exact fun z => nal (z ▸ ha)
  · intro a ha
    rcases List.mem_append.mp ha with z | z
    · obtain ⟨u, e⟩ := S.lv a z
      exact ⟨u, eH _ _ e⟩
    · rw [List.mem_singleton.mp z]
      exact ⟨o, upd_same⟩
  · intro j a c h1 h2 h3
    by_cases hj : j < al.length
    · rw [List.getElem?_append_left hj] at h1
      rw [List.getElem?_append_left (by rw [← S.len]; exact hj)] at h2
      exact S.nb j a c h1 h2 h3
    · rw [List.getElem?_append_right (by omega)] at h1
      have : a = p := by
        have z := List.mem_of_getElem? h1
        exact List.mem_singleton.mp z
      rw [this]; exact hB
  · intro j a c h1 h2
    by_cases hj : j < al.length
    · rw [List.getElem?_append_left hj] at h1
      rw [List.getElem?_append_left (by rw [← S.len]; exact hj)] at h2
      exact ct_mono (Same.refl B) (fun u e => eH _ _ e) (S.ce j a c h1 h2)
    · rw [List.getElem?_append_right (by omega)] at h1
      rw [List.getElem?_append_right (by rw [← S.len]; omega)] at h2
      have e1 : a = p := List.mem_singleton.mp (List.mem_of_getElem? h1)
      have e2 : c = ct := List.mem_singleton.mp (List.mem_of_getElem? h2)
      subst e1 e2
      exact ct_mono (Same.refl B) (fun u e => e) hc
  · intro i r e
    obtain ⟨v, h1, h2⟩ := S.sl i r e
    exact ⟨v, h1, rv_mono (Same.refl B) h2⟩
  · intro q hq
    exact rv_mono (Same.refl B) (S.tm q hq)
theorem Stt.own_at (S : Stt K F g tm s H B al) {p : Addr} : (al ++ [p])[g.ce.length]? = some p := by
  rw [← S.len, List.getElem?_append_right (Nat.le_refl _), Nat.sub_self]
  rfl
/-- an own cell is changed -/
theorem Stt.put (S : Stt K F g tm s H B al) {j : Nat} {a : Addr} {o : HO} {ct ct' : Ct} (ha : al[j]? = some a) (hc : g.ce[j]? = some ct) (nd : ct ≠ Ct.dead) (hk : CtOk K B al (upd H a o) a ct') : Stt K F { g with ce := g.ce.set j ct' } tm s (upd H a o) B al := by
  have hB := S.nb j a ct ha hc nd
  have ma := List.mem_of_getElem? ha
  refine { rb := S.rb, ro := S.ro, rp := S.rp, ot := S.ot, fb := S.fb, bh := same_mut S.bh hB, fo := ?_, pre := S.pre, len := by rw [List.length_set]; exact S.len, nd := S.nd, lv := ?_, nb := ?_, ce := ?_, sl := S.sl, tm := S.tm, sln := S.sln }
  · intro b u e
    obtain ⟨h1, h2, h3⟩ := S.fo b u e
    have ne : b ≠ a := fun z => h3 (z ▸ ma)
    exact ⟨by rw [upd_ne ne]; exact h1, h2, h3⟩
  · intro b hb
    by_cases e : b = a
    · rw [e]; exact ⟨o, upd_same⟩
    · rw [upd_ne e]; exact S.lv b hb
  · intro i b c h1 h2 h3
    by_cases e : i = j
    · subst e
      rw [ha] at h1
      cases h1
      exact hB
    · rw [List.getElem?_set_ne (Ne.symm e)] at h2
      exact S.nb i b c h1 h2 h3
  · intro i b c h1 h2
    by_cases e : i = j
    · subst e
      rw [ha] at h1
      cases h1
      rw [List.getElem?_set_self (List.getElem?_eq_some_iff.mp hc).1] at h2
      cases h2
      exact hk
    · rw [List.getElem?_set_ne (Ne.symm e)] at h2
      have ne : b ≠ a := fun z => by
        subst z
        exact e ((List.getElem?_inj (List.getElem?_eq_some_iff.mp h1).1 S.nd).mp (h1.trans ha.symm))
      refine ct_mono0 (Same.refl B) (fun u q => ?_) (S.ce i b c h1 h2)
      rw [upd_ne ne]; exact q
/-- a slot is set -/
theorem Stt.store (S : Stt K F g tm s H B al) {i : Nat} {v : V} {r : R} (h : RvOk K B al v r) : Stt K F { g with sl := g.sl.set i (some r) } tm (s.set i (some v)) H B al := by
  refine { S with sl := ?_, sln := by rw [List.length_set, List.length_set]; exact S.sln }
  intro k q e
  by_cases hk : i = k
  · subst hk
    by_cases hl : i < g.sl.length
    · rw [List.getElem?_set_self hl] at e
      cases e
      exact ⟨v, List.getElem?_set_self (by rw [← S.sln]; exact hl), h⟩
    · rw [List.getElem?_eq_none (by rw [List.length_set]; omega)] at e
      cases e
  · rw [List.getElem?_set_ne hk] at e
    rw [List.getElem?_set_ne hk]
    exact S.sl k q e
end
def lift (K : KR) (de : DE) : TE := fun s H Q => ∃ F g tm k B al, Stt K F g tm s H B al ∧ de g k ∧ ∀ v H' r g' B' al', k r g' → Stt K F g' ((v, r) :: tm) s H' B' al' → Q v H'
def liftT (K : KR) (dt : DT) : TT := fun s H Q => ∃ F g tm k B al, Stt K F g tm s H B al ∧ dt g k ∧ ∀ b H' g' B' al', k b g' → Stt K F g' tm s H' B' al' → Q b H'
def liftA (K : KR) (da : DA) : TA := fun s H Q => ∃ F g tm k B al, Stt K F g tm s H B al ∧ da g k ∧ ∀ vs H' rs g' B' al', k rs g' → Stt K F g' tm s H' B' al' → Paired (RvOk K B' al') vs rs → Q vs H'
structure DEndsOk (K : KR) (F : Fm) (tm : List (V × R)) (E : DEnds) (D : Ends) : Prop where
  nx : ∀ s H g B al, E.nx g → Stt K F g tm s H B al → D.nx s H
  rt : ∀ s v H r g B al, E.rt r g → Stt K F g ((v, r) :: tm) s H B al → D.rt v H
  bk : ∀ s H g B al, E.bk g → Stt K F g tm s H B al → D.bk s H
  ct : ∀ s H g B al, E.ct g → Stt K F g tm s H B al → D.ct s H
  tm0 : tm = []
def liftS (K : KR) (ds : DS) : TS := fun D s H => ∃ F g tm E B al, Stt K F g tm s H B al ∧ ds E g ∧ DEndsOk K F tm E D
abbrev PD (ρ : Root) (X : Cx) (e : Expr) (de : DE) : Prop := PE X e (lift ⟨X.K, ρ⟩ de)
abbrev PDT (ρ : Root) (X : Cx) (e : Expr) (dt : DT) : Prop := PT X e (liftT ⟨X.K, ρ⟩ dt)
abbrev PDA (ρ : Root) (X : Cx) (es : List Expr) (da : DA) : Prop := PA X es (liftA ⟨X.K, ρ⟩ da)
abbrev PDS (ρ : Root) (X : Cx) (st : Stmt) (ds : DS) : Prop := PS X st (liftS ⟨X.K, ρ⟩ ds)
abbrev PDSs (ρ : Root) (X : Cx) (st : List Stmt) (ds : DS) : Prop := PSs X st (liftS ⟨X.K, ρ⟩ ds)
section
variable {ρ : Root} {X : Cx} {e a b c : Expr} {pos : Pos}
theorem pe_imp {t t' : TE} (h : PE X e t) (i : ∀ s H Q, t' s H Q → t s H Q) : PE X e t' := ⟨fun pins s σ H Q I q => h.run pins s σ H Q I (i σ H Q q)⟩
theorem pt_imp {t t' : TT} (h : PT X e t) (i : ∀ s H Q, t' s H Q → t s H Q) : PT X e t' := ⟨fun pins s σ H Q I q => h.run pins s σ H Q I (i σ H Q q)⟩
theorem pa_imp {es : List Expr} {t t' : TA} (h : PA X es t) (i : ∀ s H Q, t' s H Q → t s H Q) : PA X es t' := ⟨fun p pins s σ H Q I q => h.run p pins s σ H Q I (i σ H Q q)⟩
theorem ps_imp {st : Stmt} {t t' : TS} (h : PS X st t) (i : ∀ D s H, t' D s H → t D s H) : PS X st t' := ⟨fun pins s σ H D I q => h.run pins s σ H D I (i D σ H q)⟩
theorem pss_imp {st : List Stmt} {t t' : TS} (h : PSs X st t) (i : ∀ D s H, t' D s H → t D s H) : PSs X st t' := ⟨fun pins s σ H D I q => h.run pins s σ H D I (i D σ H q)⟩
def dVar (i : Nat) : DE := fun g k => ∃ r, g.sl[i]? = some (some r) ∧ k r g
theorem pd_var (i : Nat) {x : Str} (hN : X.N[i]? = some x := by rfl) (hv : Vis X.env.scope x := by first | exact Or.inl rfl | exact Or.inr (Or.inl rfl) | exact Or.inr (Or.inr rfl)) (hd : (x == ("__debug__" : Str)) = false := by decide)
    (hcd : (x == ("__classdict__" : Str)) = false := by decide) : PD ρ X (.Name x pos) (dVar i) :=
  pe_imp (pe_var hN hv hd hcd) fun s H Q ⟨F, g, tm, k, B, al, S, ⟨r, hr, hk⟩, q⟩ => by
    obtain ⟨v, h1, h2⟩ := S.sl i r hr
    exact ⟨v, h1, q v H r g B al hk (S.push h2)⟩
def dC (x : PyData) : DE := fun g k => k (.d x) g
theorem ref_c {K : KR} {v : V} {x : PyData} (h : ∀ B, Dq B v x) : ∀ s H Q, lift K (dC x) s H Q → tC v s H Q :=
  fun s H Q ⟨F, g, tm, k, B, al, S, hk, q⟩ => q v H (.d x) g B al hk (S.push (h B))
theorem pd_int {i : Int} {j : Nat} : PD ρ X (.Constant (.int i) j pos) (dC (.int i)) := pe_imp pe_int (ref_c fun B => .int i)
theorem pd_bool {i : Bool} {j : Nat} : PD ρ X (.Constant (.bool i) j pos) (dC (.bool i)) := pe_imp pe_bl (ref_c fun B => .bl i)
theorem pd_none {j : Nat} : PD ρ X (.Constant .none j pos) (dC .none) := pe_imp pe_non (ref_c fun B => .non)
theorem pd_str {i : Str} {j : Nat} : PD ρ X (.Constant (.str i) j pos) (dC (.str i)) := pe_imp pe_str (ref_c fun B => .str i)
abbrev D2 := R → R → G → (R → G → Prop) → Prop
def RefOp (K : KR) (r : R2) (dr : D2) : Prop := ∀ F g tm s H B al x y r1 r2 k Q, Stt K F g tm s H B al → RvOk K B al x r1 → RvOk K B al y r2 → dr r1 r2 g k →
  (∀ v H' r g' B' al', k r g' → Stt K F g' tm s H' B' al' → RvOk K B' al' v r → Q v H') → r x y H Q
def dOp (dr : D2) (da db : DE) : DE := fun g k => da g fun r1 g1 => db g1 fun r2 g2 => dr r1 r2 g2 k
theorem ref_op {K : KR} {r : R2} {dr : D2} {da db : DE} (h : RefOp K r dr) : ∀ s H Q, lift K (dOp dr da db) s H Q → tOp r (lift K da) (lift K db) s H Q :=
  fun s H Q ⟨F, g, tm, k, B, al, S, hk, q⟩ => ⟨F, g, tm, _, B, al, S, hk, fun x H1 r1 g1 B1 al1 hk1 S1 => ⟨F, g1, (x, r1) :: tm, _, B1, al1, S1, hk1, fun y H2 r2 g2 B2 al2 hk2 S2 =>
    h F g2 tm s H2 B2 al2 x y r1 r2 k Q (S2.temps fun p hp => List.mem_cons_of_mem _ (List.mem_cons_of_mem _ hp)) (S2.tm (x, r1) (by simp)) (S2.tm (y, r2) (by simp)) hk2 fun v H' r g' B' al' hr S' rv => q v H' r g' B' al' hr (S'.push rv)⟩⟩
theorem pd_op {op : Operator} {r : R2} {dr : D2} {da db : DE} (ho : OpR X (binaryOp op) r) (h : RefOp ⟨X.K, ρ⟩ r dr) (ha : PD ρ X a da) (hb : PD ρ X b db) : PD ρ X (.BinOp a op b pos) (dOp dr da db) :=
  pe_imp (pe_op ho ha hb) (ref_op h)
theorem pd_cmp {op : CmpOp} {r : R2} {dr : D2} {da db : DE} (ho : OpR X (compareOp op) r) (hm : behindInMarks op b = false) (h : RefOp ⟨X.K, ρ⟩ r dr) (ha : PD ρ X a da) (hb : PD ρ X b db) : PD ρ X (.Compare a [op] [b] pos) (dOp dr da db) :=
  pe_imp (pe_cmpR ho ha hb hm) (ref_op h)
end
end DL
set_option Elab.async false
set_option linter.all false
set_option maxRecDepth 100000
set_option maxHeartbeats 4000000
set_option autoImplicit false
namespace DL
open PySem PySem.Spec PyProof.Rows L2
theorem dq_int {B : Hp} {v : V} {i : Int} (h : Dq B v (.int i)) : v = .int i := by cases h; rfl
theorem dq_bool {B : Hp} {v : V} {i : Bool} (h : Dq B v (.bool i)) : v = .bl i := by cases h; rfl
theorem dq_none {B : Hp} {v : V} (h : Dq B v .none) : v = .non := by cases h; rfl
theorem dq_str {B : Hp} {v : V} {i : Str} (h : Dq B v (.str i)) : v = .str i := by cases h; rfl
theorem dq_list {B : Hp} {v : V} {ds : List PyData} (h : Dq B v (.list ds)) : ∃ a xs, v = .ref a ∧ B a = some (.lst xs) ∧ DqAll B xs ds := by
  cases h with
  | lst h1 h2 => exact ⟨_, _, rfl, h1, h2⟩
theorem dq_tup {B : Hp} {v : V} {ds : List PyData} (h : Dq B v (.tuple ds)) : ∃ a xs, v = .ref a ∧ B a = some (.tup xs) ∧ DqAll B xs ds := by
  cases h with
  | tup h1 h2 => exact ⟨_, _, rfl, h1, h2⟩
theorem dqall_len {B : Hp} : ∀ {xs : List V} {ds : List PyData}, DqAll B xs ds → xs.length = ds.length
  | _, _, .nil => rfl
  | _, _, .cons _ t => by rw [List.length_cons, List.length_cons, dqall_len t]
theorem dqall_get {B : Hp} : ∀ {xs : List V} {ds : List PyData} {i : Nat} {d : PyData}, DqAll B xs ds → ds[i]? = some d → ∃ x, xs[i]? = some x ∧ Dq B x d
  | _, _, _, _, .nil, e => by simp at e
  | _, _, 0, _, .cons r _, e => by
    simp at e
    subst e
    exact ⟨_, rfl, r⟩
  | _, _, i + 1, d, .cons _ t, e => by
    obtain ⟨u, h1, h2⟩ := dqall_get (i := i) (d := d) t (by simpa using e)
    exact ⟨u, by simpa using h1, h2⟩
theorem dqall_app {B : Hp} : ∀ {xs ys : List V} {ds es : List PyData}, DqAll B xs ds → DqAll B ys es → DqAll B (xs ++ ys) (ds ++ es)
  | _, _, _, _, .nil, s => s
  | _, _, _, _, .cons r t, s => .cons r (dqall_app t s)
theorem dqall_take {B : Hp} : ∀ {xs : List V} {ds : List PyData} (n : Nat), DqAll B xs ds → DqAll B (xs.take n) (ds.take n)
  | _, _, 0, _ => .nil
  | _, _, _ + 1, .nil => .nil
  | _, _, n + 1, .cons r t => .cons r (dqall_take n t)
theorem dqall_drop {B : Hp} : ∀ {xs : List V} {ds : List PyData} (n : Nat), DqAll B xs ds → DqAll B (xs.drop n) (ds.drop n)
  | _, _, 0, r => r
  | _, _, _ + 1, .nil => .nil
  | _, _, n + 1, .cons _ t => dqall_drop n t
theorem dqall_rev {B : Hp} : ∀ {xs : List V} {ds : List PyData}, DqAll B xs ds → DqAll B xs.reverse ds.reverse
  | _, _, .nil => .nil
  | _, _, .cons r t => by
    rw [List.reverse_cons, List.reverse_cons]
    exact dqall_app (dqall_rev t) (.cons r .nil)
theorem dqall_set {B : Hp} {x : V} {d : PyData} (r : Dq B x d) : ∀ {xs : List V} {ds : List PyData} (i : Nat), DqAll B xs ds → DqAll B (xs.set i x) (ds.set i d)
  | _, _, _, .nil => .nil
  | _, _, 0, .cons _ t => .cons r t
  | _, _, i + 1, .cons q t => .cons q (dqall_set r i t)
theorem dqall_erase {B : Hp} : ∀ {xs : List V} {ds : List PyData} (i : Nat), DqAll B xs ds → DqAll B (xs.eraseIdx i) (ds.eraseIdx i)
  | _, _, _, .nil => .nil
  | _, _, 0, .cons _ t => t
  | _, _, i + 1, .cons q t => .cons q (dqall_erase i t)
theorem dqall_ints {B : Hp} : ∀ {xs : List V} {ns : List Int}, DqAll B xs (ns.map .int) → xs = ns.map V.int
  | _, [], .nil => rfl
  | _, n :: ns, .cons r t => by
    rw [dq_int r, dqall_ints t]
    rfl
theorem dqall_mkints {B : Hp} : ∀ (ns : List Int), DqAll B (ns.map V.int) (ns.map .int)
  | [] => .nil
  | n :: ns => .cons (.int n) (dqall_mkints ns)
theorem dqall_bools {B : Hp} : ∀ {xs : List V} {ns : List Bool}, DqAll B xs (ns.map .bool) → xs = ns.map V.bl
  | _, [], .nil => rfl
  | _, n :: ns, .cons r t => by
    rw [dq_bool r, dqall_bools t]
    rfl
theorem dqall_paired {K : KR} {B : Hp} {al : List Addr} : ∀ {xs : List V} {ds : List PyData}, Paired (RvOk K B al) xs (ds.map .d) → DqAll B xs ds
  | _, [], .nil => .nil
  | _, d :: ds, .cons r t => .cons r (dqall_paired t)
/-- the items of a sequence; true: a tuple -/
def seqOf (g : G) : R → Option (Bool × List PyData)
  | .d (.list ds) => some (false, ds)
  | .d (.tuple ds) => some (true, ds)
  | .s ns => some (false, ns.map .int)
  | .o j => match g.ce[j]? with
    | some (.lst ds) => some (false, ds)
    | _ => none
  | _ => none
def SqB (K : PySem.W.Frag) (t : Bool) (H : Hp) (a : Addr) (xs : List V) : Prop := match t with
  | true => SqT K H a xs
  | false => SqL K H a xs
section
variable {K : KR} {F : Fm} {g : G} {tm : List (V × R)} {s : L2.St} {H B : Hp} {al : List Addr}
theorem Stt.seq (S : Stt K F g tm s H B al) {v : V} {r : R} {t : Bool} {ds : List PyData} (hv : RvOk K B al v r) (h : seqOf g r = some (t, ds)) : ∃ a xs, v = .ref a ∧ SqB K.fr t H a xs ∧ DqAll B xs ds := by
  cases r with
  | d x =>
    cases x with
    | list es =>
      have e : (false, es) = (t, ds) := Option.some.inj h
      cases e
      obtain ⟨a, xs, e1, e2, e3⟩ := dq_list hv
      exact ⟨a, xs, e1, .inl (.inl (S.bh _ _ e2)), e3⟩
    | tuple es =>
      have e : (true, es) = (t, ds) := Option.some.inj h
      cases e
      obtain ⟨a, xs, e1, e2, e3⟩ := dq_tup hv
      exact ⟨a, xs, e1, .inl (.inl (S.bh _ _ e2)), e3⟩
    | _ => cases h
  | x n => cases h
  | m ct => cases h
  | l js => cases h
  | f j ds => cases h
  | s ns =>
    have e : (false, ns.map PyData.int) = (t, ds) := Option.some.inj h
    cases e
    obtain ⟨a, e1, e2⟩ := hv
    exact ⟨a, ns.map V.int, e1, same_l S.bh e2, dqall_mkints ns⟩
  | o j =>
    obtain ⟨a, e1, e2⟩ := hv
    cases hc : g.ce[j]? with
    | none =>
      have h' : (match g.ce[j]? with | some (.lst ds) => some (false, ds) | _ => none) = some (t, ds) := h
      rw [hc] at h'
      cases h'
    | some ct =>
      have h' : (match g.ce[j]? with | some (.lst ds) => some (false, ds) | _ => none) = some (t, ds) := h
      rw [hc] at h'
      cases ct with
      | lst es =>
        cases h'
        obtain ⟨xs, q1, q2⟩ := S.ce j a _ e1 hc
        exact ⟨a, xs, e2, .inl (.inl q1), q2⟩
      | dead => cases h'
      | dK kvs => cases h'
      | dT kvs => cases h'
      | dN kvs => cases h'
      | dL kvs => cases h'
      | dF kvs => cases h'
/-- an own list, a shared list: not the script -/
def isMade : R → Bool
  | .s _ => false
  | _ => true
theorem Stt.seqM (S : Stt K F g tm s H B al) {v : V} {r : R} {ds : List PyData} (hv : RvOk K B al v r) (h : seqOf g r = some (false, ds)) (hm : isMade r = true) : ∃ a xs, v = .ref a ∧ H a = some (.lst xs) ∧ DqAll B xs ds := by
  cases r with
  | d x =>
    cases x with
    | list es =>
      have e : (false, es) = (false, ds) := Option.some.inj h
      cases e
      obtain ⟨a, xs, e1, e2, e3⟩ := dq_list hv
      exact ⟨a, xs, e1, S.bh _ _ e2, e3⟩
    | _ => cases h
  | x n => cases h
  | m ct => cases h
  | l js => cases h
  | f j ds => cases h
  | s ns => cases hm
  | o j =>
    obtain ⟨a, e1, e2⟩ := hv
    cases hc : g.ce[j]? with
    | none =>
      have h' : (match g.ce[j]? with | some (.lst ds) => some (false, ds) | _ => none) = some (false, ds) := h
      rw [hc] at h'
      cases h'
    | some ct =>
      have h' : (match g.ce[j]? with | some (.lst ds) => some (false, ds) | _ => none) = some (false, ds) := h
      rw [hc] at h'
      cases ct with
      | lst es =>
        cases h'
        obtain ⟨xs, q1, q2⟩ := S.ce j a _ e1 hc
        exact ⟨a, xs, e2, q1, q2⟩
      | dead => cases h'
      | dK kvs => cases h'
      | dT kvs => cases h'
      | dN kvs => cases h'
      | dL kvs => cases h'
      | dF kvs => cases h'
end
theorem SqB.or {K : KR} {t : Bool} {H : Hp} {a : Addr} {xs : List V} (h : SqB K.fr t H a xs) : SqL K.fr H a xs ∨ SqT K.fr H a xs := by
  cases t with
  | true => exact .inr h
  | false => exact .inl h
section
variable {ρ : Root} {X : Cx} {e a b c : Expr} {es : List Expr} {pos : Pos}
def dNil : DA := fun g k => k [] g
def dCons (de : DE) (da : DA) : DA := fun g k => de g fun r g1 => da g1 fun rs g2 => k (r :: rs) g2
theorem pda_nil : PDA ρ X [] dNil := pa_imp pa_nil fun s H Q ⟨F, g, tm, k, B, al, S, hk, q⟩ => q [] H [] g B al hk S .nil
theorem pda_cons {de : DE} {da : DA} (ha : PD ρ X e de) (hr : PDA ρ X es da) (hs : starEach (e :: es) X.env = (false, eval e X.env) :: starEach es X.env := by rfl) : PDA ρ X (e :: es) (dCons de da) :=
  pa_imp (pa_cons ha hr hs) fun s H Q ⟨F, g, tm, k, B, al, S, hk, q⟩ => ⟨F, g, tm, _, B, al, S, hk, fun x H1 r1 g1 B1 al1 hk1 S1 => ⟨F, g1, (x, r1) :: tm, _, B1, al1, S1, hk1, fun vs H2 rs g2 B2 al2 hk2 S2 pr =>
    q (x :: vs) H2 (r1 :: rs) g2 B2 al2 hk2 (S2.temps fun p hp => List.mem_cons_of_mem _ hp) (.cons (S2.tm (x, r1) List.mem_cons_self) pr)⟩⟩
abbrev DCl := List R → G → (R → G → Prop) → Prop
def RefC (K : KR) (r : List V → Hp → VK → Prop) (dr : DCl) : Prop := ∀ F g tm s H B al vs rs k Q, Stt K F g tm s H B al → Paired (RvOk K B al) vs rs → dr rs g k →
  (∀ v H' r g' B' al', k r g' → Stt K F g' tm s H' B' al' → RvOk K B' al' v r → Q v H') → r vs H Q
def dCall (dr : DCl) (da : DA) : DE := fun g k => da g fun rs g1 => dr rs g1 k
theorem ref_cb {K : KR} {r : List V → Hp → VK → Prop} {dr : DCl} {da : DA} (h : RefC K r dr) : ∀ s H Q, lift K (dCall dr da) s H Q → tCB r (liftA K da) s H Q :=
  fun s H Q ⟨F, g, tm, k, B, al, S, hk, q⟩ => ⟨F, g, tm, _, B, al, S, hk, fun vs H1 rs g1 B1 al1 hk1 S1 pr => h F g1 tm s H1 B1 al1 vs rs k Q S1 pr hk1 fun v H' r g' B' al' hr S' rv => q v H' r g' B' al' hr (S'.push rv)⟩
theorem pd_callB {x : Str} {p : Pos} {id : String} {r : List V → Hp → VK → Prop} {dr : DCl} {da : DA} (hc : CallR X (.builtin id) r) (h : RefC ⟨X.K, ρ⟩ r dr) (hg : Gl X x) (hm : X.mg x = none) (hv : bootBuiltins x = some (.builtin id)) (ha : PDA ρ X (e :: es) da) (hn : x ≠ "__name__" := by decide)
    (hdb : (x == ("__debug__" : Str)) = false := by decide) (he : starEach (e :: es) X.env = (false, eval e X.env) :: starEach es X.env := by rfl) (hpl : (backTo pos (starEach es X.env)).any (·.1) = false := by rfl) : PD ρ X (.Call (.Name x p) (e :: es) [] pos) (dCall dr da) :=
  pe_imp (pe_callB hc hg hm hv ha hn hdb he hpl) (ref_cb h)
theorem pd_callTy {x : Str} {p : Pos} {id : String} {r : List V → Hp → VK → Prop} {dr : DCl} {da : DA} (hc : CallR X (.type id) r) (h : RefC ⟨X.K, ρ⟩ r dr) (hg : Gl X x) (hm : X.mg x = none) (hv : bootBuiltins x = some (.type id)) (ha : PDA ρ X (e :: es) da) (hn : x ≠ "__name__" := by decide)
    (hdb : (x == ("__debug__" : Str)) = false := by decide) (he : starEach (e :: es) X.env = (false, eval e X.env) :: starEach es X.env := by rfl) (hpl : (backTo pos (starEach es X.env)).any (·.1) = false := by rfl) : PD ρ X (.Call (.Name x p) (e :: es) [] pos) (dCall dr da) :=
  pe_imp (pe_callTy hc hg hm hv ha hn hdb he hpl) (ref_cb h)
theorem pair1 {K : KR} {B : Hp} {al : List Addr} {vs : List V} {r : R} (h : Paired (RvOk K B al) vs [r]) : ∃ v, vs = [v] ∧ RvOk K B al v r := by
  cases h with
  | cons a b => cases b; exact ⟨_, rfl, a⟩
theorem pair2 {K : KR} {B : Hp} {al : List Addr} {vs : List V} {r r' : R} (h : Paired (RvOk K B al) vs [r, r']) : ∃ v w, vs = [v, w] ∧ RvOk K B al v r ∧ RvOk K B al w r' := by
  cases h with
  | cons a b =>
    obtain ⟨w, e, h⟩ := pair1 b
    subst e
    exact ⟨_, _, rfl, a, h⟩
/-- len -/
def cLen : DCl := fun rs g k => ∃ r t ds, rs = [r] ∧ seqOf g r = some (t, ds) ∧ k (.d (.int ds.length)) g
theorem ref_len {K : KR} : RefC K (fun xs H Q => ∃ p ys, xs = [.ref p] ∧ (SqL K.fr H p ys ∨ SqT K.fr H p ys) ∧ Q (.int ys.length) H) cLen := by
  rintro F g tm s H B al vs rs k Q S pr ⟨r, t, ds, rfl, hs, hk⟩ q
  obtain ⟨v, rfl, hv⟩ := pair1 pr
  obtain ⟨a, xs, rfl, h1, h2⟩ := S.seq hv hs
  refine ⟨a, xs, rfl, h1.or, ?_⟩
  rw [dqall_len h2]
  exact q _ H _ g B al hk S (.int _)
/-- abs, min, max, int -/
def cAbs : DCl := fun rs g k => ∃ i, rs = [.d (.int i)] ∧ k (.d (.int (if i < 0 then -i else i))) g
theorem ref_abs {K : KR} : RefC K (fun xs H Q => ∃ i, xs = [.int i] ∧ Q (.int (if i < 0 then -i else i)) H) cAbs := by
  rintro F g tm s H B al vs rs k Q S pr ⟨i, rfl, hk⟩ q
  obtain ⟨v, rfl, hv⟩ := pair1 pr
  cases dq_int hv
  exact ⟨i, rfl, q _ H _ g B al hk S (.int _)⟩
def cMin2 : DCl := fun rs g k => ∃ i j, rs = [.d (.int i), .d (.int j)] ∧ k (.d (.int (if j < i then j else i))) g
theorem ref_min2 {K : KR} : RefC K (fun xs H Q => ∃ i j, xs = [.int i, .int j] ∧ Q (.int (if j < i then j else i)) H) cMin2 := by
  rintro F g tm s H B al vs rs k Q S pr ⟨i, j, rfl, hk⟩ q
  obtain ⟨v, w, rfl, hv, hw⟩ := pair2 pr
  cases dq_int hv
  cases dq_int hw
  exact ⟨i, j, rfl, q _ H _ g B al hk S (.int _)⟩
def cIntB : DCl := fun rs g k => ∃ b, rs = [.d (.bool b)] ∧ k (.d (.int (if b then 1 else 0))) g
theorem ref_intB {K : KR} : RefC K (fun xs H Q => (∃ i, xs = [.int i] ∧ Q (.int i) H) ∨ ∃ k, xs = [.bl k] ∧ Q (.int (if k then 1 else 0)) H) cIntB := by
  rintro F g tm s H B al vs rs k Q S pr ⟨i, rfl, hk⟩ q
  obtain ⟨v, rfl, hv⟩ := pair1 pr
  cases dq_bool hv
  exact .inr ⟨i, rfl, q _ H _ g B al hk S (.int _)⟩
/-- a new shared list, a new shared tuple -/
theorem new_l {K : KR} {F : Fm} {g : G} {tm : List (V × R)} {s : L2.St} {H B : Hp} {al : List Addr} {p : Addr} {xs : List V} {ds : List PyData} {Q : VK} {k : R → G → Prop} (S : Stt K F g tm s H B al) (hp : H p = none) (hx : DqAll B xs ds) (hk : k (.d (.list ds)) g)
    (q : ∀ v H' r g' B' al', k r g' → Stt K F g' tm s H' B' al' → RvOk K B' al' v r → Q v H') : Q (.ref p) (upd H p (.lst xs)) :=
  q _ _ _ g _ al hk (S.grow hp) (Dq.lst upd_same (dqall_mono (same_new (S.bh.free hp)) hx))
theorem new_t {K : KR} {F : Fm} {g : G} {tm : List (V × R)} {s : L2.St} {H B : Hp} {al : List Addr} {p : Addr} {xs : List V} {ds : List PyData} {Q : VK} {k : R → G → Prop} (S : Stt K F g tm s H B al) (hp : H p = none) (hx : DqAll B xs ds) (hk : k (.d (.tuple ds)) g)
    (q : ∀ v H' r g' B' al', k r g' → Stt K F g' tm s H' B' al' → RvOk K B' al' v r → Q v H') : Q (.ref p) (upd H p (.tup xs)) :=
  q _ _ _ g _ al hk (S.grow hp) (Dq.tup upd_same (dqall_mono (same_new (S.bh.free hp)) hx))
theorem new_o {K : KR} {F : Fm} {g : G} {tm : List (V × R)} {s : L2.St} {H B : Hp} {al : List Addr} {p : Addr} {xs : List V} {ds : List PyData} {Q : VK} {k : R → G → Prop} (S : Stt K F g tm s H B al) (hp : H p = none) (hx : DqAll B xs ds) (hk : k (.o g.ce.length) { g with ce := g.ce ++ [.lst ds] })
    (q : ∀ v H' r g' B' al', k r g' → Stt K F g' tm s H' B' al' → RvOk K B' al' v r → Q v H') : Q (.ref p) (upd H p (.lst xs)) :=
  q _ _ _ _ _ _ hk (S.own hp ⟨xs, upd_same, hx⟩) ⟨p, S.own_at, rfl⟩
def cListO : DCl := fun rs g k => ∃ r t ds, rs = [r] ∧ seqOf g r = some (t, ds) ∧ k (.o g.ce.length) { g with ce := g.ce ++ [.lst ds] }
theorem ref_listO {K : KR} : RefC K (fun xs H Q => ∃ p ys, xs = [.ref p] ∧ (SqL K.fr H p ys ∨ SqT K.fr H p ys) ∧ ∀ l, H l = none → Q (.ref l) (upd H l (.lst ys))) cListO := by
  rintro F g tm s H B al vs rs k Q S pr ⟨r, t, ds, rfl, hs, hk⟩ q
  obtain ⟨v, rfl, hv⟩ := pair1 pr
  obtain ⟨a, xs, rfl, h1, h2⟩ := S.seq hv hs
  exact ⟨a, xs, rfl, h1.or, fun l hl => new_o S hl h2 hk q⟩
/-- tuple(x) -/
def cTuple : DCl := fun rs g k => ∃ r t ds, rs = [r] ∧ seqOf g r = some (t, ds) ∧ k (.d (.tuple ds)) g
theorem seq_tup {g : G} {r : R} {ds : List PyData} (h : seqOf g r = some (true, ds)) : r = .d (.tuple ds) := by
  cases r with
  | d x =>
    cases x with
    | list es => cases h
    | tuple es =>
      have e : (true, es) = (true, ds) := Option.some.inj h
      cases e
      rfl
    | _ => cases h
  | x n => cases h
  | m ct => cases h
  | l js => cases h
  | f j ds => cases h
  | s ns => cases h
  | o j =>
    have h' : (match g.ce[j]? with | some (.lst ds) => some (false, ds) | _ => none) = some (true, ds) := h
    split at h'
    · cases h'
    · cases h'
theorem ref_tuple {K : KR} : RefC K (fun xs H Q => ∃ p ys, xs = [.ref p] ∧ ((SqL K.fr H p ys ∧ ∀ l, H l = none → Q (.ref l) (upd H l (.tup ys))) ∨ (SqT K.fr H p ys ∧ Q (.ref p) H))) cTuple := by
  rintro F g tm s H B al vs rs k Q S pr ⟨r, t, ds, rfl, hs, hk⟩ q
  obtain ⟨v, rfl, hv⟩ := pair1 pr
  obtain ⟨a, xs, rfl, h1, h2⟩ := S.seq hv hs
  cases t with
  | false => exact ⟨a, xs, rfl, .inl ⟨h1, fun l hl => new_t S hl h2 hk q⟩⟩
  | true =>
    have e := seq_tup hs
    subst e
    exact ⟨a, xs, rfl, .inr ⟨h1, q _ H _ g B al hk S hv⟩⟩
def dTup (da : DA) : DE := fun g k => da g fun rs g1 => ∃ ds, rs = ds.map R.d ∧ ds.length ≤ 100000 ∧ k (.d (.tuple ds)) g1
def dLst (da : DA) : DE := fun g k => da g fun rs g1 => ∃ ds, rs = ds.map R.d ∧ ds.length ≤ 100000 ∧ k (.d (.list ds)) g1
def dLstO (da : DA) : DE := fun g k => da g fun rs g1 => ∃ ds, rs = ds.map R.d ∧ ds.length ≤ 100000 ∧ k (.o g1.ce.length) { g1 with ce := g1.ce ++ [.lst ds] }
theorem sz_ok {n : Nat} (h : n ≤ 100000) : n ≤ sizeLine := Nat.le_trans h (by decide)
theorem sz_lt {n : Nat} (h : n < 100000) : n < sizeLine := Nat.lt_of_lt_of_le h (by decide)
theorem pd_tup {x1 : Nat} {da : DA} (h : PDA ρ X es da) : PD ρ X (.Tuple es x1 pos) (dTup da) := pe_imp (pe_tup h) fun s H Q ⟨F, g, tm, k, B, al, S, hk, q⟩ =>
  ⟨F, g, tm, _, B, al, S, hk, fun vs H1 rs g1 B1 al1 ⟨ds, e, hz, hk1⟩ S1 pr => by
    subst e
    have hd := dqall_paired pr
    refine ⟨by rw [dqall_len hd]; exact sz_ok hz, fun p hp => ?_⟩
    exact new_t S1 hp hd hk1 fun v H' r g' B' al' hr S' rv => q v H' r g' B' al' hr (S'.push rv)⟩
theorem pd_lst {da : DA} (h : PDA ρ X es da) : PD ρ X (.List es pos) (dLst da) := pe_imp (pe_lst h) fun s H Q ⟨F, g, tm, k, B, al, S, hk, q⟩ =>
  ⟨F, g, tm, _, B, al, S, hk, fun vs H1 rs g1 B1 al1 ⟨ds, e, hz, hk1⟩ S1 pr => by
    subst e
    have hd := dqall_paired pr
    refine ⟨by rw [dqall_len hd]; exact sz_ok hz, fun p hp => ?_⟩
    exact new_l S1 hp hd hk1 fun v H' r g' B' al' hr S' rv => q v H' r g' B' al' hr (S'.push rv)⟩
theorem pd_lstO {da : DA} (h : PDA ρ X es da) : PD ρ X (.List es pos) (dLstO da) := pe_imp (pe_lst h) fun s H Q ⟨F, g, tm, k, B, al, S, hk, q⟩ =>
  ⟨F, g, tm, _, B, al, S, hk, fun vs H1 rs g1 B1 al1 ⟨ds, e, hz, hk1⟩ S1 pr => by
    subst e
    have hd := dqall_paired pr
    refine ⟨by rw [dqall_len hd]; exact sz_ok hz, fun p hp => ?_⟩
    exact new_o S1 hp hd hk1 fun v H' r g' B' al' hr S' rv => q v H' r g' B' al' hr (S'.push rv)⟩
end
end DL
set_option Elab.async false
set_option linter.all false
set_option maxRecDepth 100000
set_option maxHeartbeats 4000000
set_option autoImplicit false
namespace DL
open PySem PySem.Spec PyProof.Rows L2
section
variable {ρ : Root} {X : Cx} {e a b c : Expr} {es : List Expr} {pos : Pos}
def oI (C : Int → Int → Prop) (f : Int → Int → PyData) : D2 := fun r1 r2 g k => ∃ i j, r1 = .d (.int i) ∧ r2 = .d (.int j) ∧ C i j ∧ k (.d (f i j)) g
def oI0 (f : Int → Int → PyData) : D2 := fun r1 r2 g k => ∃ i j, r1 = .d (.int i) ∧ r2 = .d (.int j) ∧ k (.d (f i j)) g
theorem ref_I {K : KR} {C : Int → Int → Prop} {f : Int → Int → PyData} {h : Int → Int → V} (hd : ∀ B i j, Dq B (h i j) (f i j)) : RefOp K (rI C h) (oI C f) := by
  rintro F g tm s H B al x y r1 r2 k Q S hx hy ⟨i, j, rfl, rfl, hc, hk⟩ q
  cases dq_int hx
  cases dq_int hy
  exact ⟨i, j, rfl, rfl, hc, q _ H _ g B al hk S (hd _ _ _)⟩
theorem ref_I0 {K : KR} {f : Int → Int → PyData} {h : Int → Int → V} (hd : ∀ B i j, Dq B (h i j) (f i j)) : RefOp K (rI0 h) (oI0 f) := by
  rintro F g tm s H B al x y r1 r2 k Q S hx hy ⟨i, j, rfl, rfl, hk⟩ q
  cases dq_int hx
  cases dq_int hy
  exact ⟨i, j, rfl, rfl, q _ H _ g B al hk S (hd _ _ _)⟩
abbrev oAdd : D2 := oI0 fun i j => .int (i + j)
abbrev oSub : D2 := oI0 fun i j => .int (i - j)
abbrev oMul : D2 := oI CMul fun i j => .int (i * j)
abbrev oMod : D2 := oI (fun _ j => 0 < j) fun i j => .int (i % j)
abbrev oDiv : D2 := oI CDivW fun i j => .int (i / j)
abbrev oPow : D2 := oI CPow fun i j => .int (i ^ j.toNat)
abbrev oLt : D2 := oI0 fun i j => .bool (decide (i < j))
abbrev oGt : D2 := oI0 fun i j => .bool (decide (j < i))
abbrev oGe : D2 := oI0 fun i j => .bool (decide (j ≤ i))
theorem pd_sub {da db : DE} (ha : PD ρ X a da) (hb : PD ρ X b db) : PD ρ X (.BinOp a .Sub b pos) (dOp oSub da db) := pd_op op_sub (ref_I0 fun _ _ _ => .int _) ha hb
theorem pd_mul {da db : DE} (ha : PD ρ X a da) (hb : PD ρ X b db) : PD ρ X (.BinOp a .Mult b pos) (dOp oMul da db) := pd_op op_mul (ref_I fun _ _ _ => .int _) ha hb
theorem pd_mod {da db : DE} (ha : PD ρ X a da) (hb : PD ρ X b db) : PD ρ X (.BinOp a .Mod b pos) (dOp oMod da db) := pd_op op_mod (ref_I fun _ _ _ => .int _) ha hb
theorem pd_div {da db : DE} (ha : PD ρ X a da) (hb : PD ρ X b db) : PD ρ X (.BinOp a .FloorDiv b pos) (dOp oDiv da db) := pd_op op_fdivW (ref_I fun _ _ _ => .int _) ha hb
theorem pd_pow {da db : DE} (ha : PD ρ X a da) (hb : PD ρ X b db) : PD ρ X (.BinOp a .Pow b pos) (dOp oPow da db) := pd_op op_pow (ref_I fun _ _ _ => .int _) ha hb
theorem pd_lt {da db : DE} (ha : PD ρ X a da) (hb : PD ρ X b db) : PD ρ X (.Compare a [.Lt] [b] pos) (dOp oLt da db) := pd_cmp op_lt (nomark _) (ref_I0 fun _ _ _ => .bl _) ha hb
theorem pd_ge {da db : DE} (ha : PD ρ X a da) (hb : PD ρ X b db) : PD ρ X (.Compare a [.GtE] [b] pos) (dOp oGe da db) := pd_cmp op_ge (nomark _) (ref_I0 fun _ _ _ => .bl _) ha hb
def dNeg (da : DE) : DE := fun g k => da g fun r g1 => ∃ i, r = .d (.int i) ∧ k (.d (.int (-i))) g1
theorem pd_neg {da : DE} (ha : PD ρ X a da) : PD ρ X (.UnaryOp .USub a pos) (dNeg da) := pe_imp (pe_un un_neg ha) fun s H Q ⟨F, g, tm, k, B, al, S, hk, q⟩ =>
  ⟨F, g, tm, _, B, al, S, hk, fun v H1 r g1 B1 al1 ⟨i, e, hk1⟩ S1 => by
    subst e
    cases dq_int (S1.top rfl)
    exact ⟨i, rfl, q _ H1 _ g1 B1 al1 hk1 ((S1.temps fun p hp => List.mem_cons_of_mem _ hp).push (Dq.int _))⟩⟩
/-- the data that a value is -/
def datOf (g : G) : R → Option PyData
  | .d x => some x
  | .o j => match g.ce[j]? with
    | some (.lst ds) => some (.list ds)
    | _ => none
  | _ => none
theorem Stt.dat {K : KR} {F : Fm} {g : G} {tm : List (V × R)} {s : L2.St} {H B : Hp} {al : List Addr} (S : Stt K F g tm s H B al) {v : V} {r : R} {x : PyData} (hv : RvOk K B al v r) (h : datOf g r = some x) : Dp K.fr H v x := by
  cases r with
  | d y => cases h; exact dq_dp (dq_mono S.bh hv)
  | x n => cases h
  | m ct => cases h
  | l js => cases h
  | f j ds => cases h
  | s ns => cases h
  | o j =>
    obtain ⟨a, e1, e2⟩ := hv
    subst e2
    have h' : (match g.ce[j]? with | some (.lst ds) => some (PyData.list ds) | _ => none) = some x := h
    cases hc : g.ce[j]? with
    | none => rw [hc] at h'; cases h'
    | some ct =>
      rw [hc] at h'
      cases ct with
      | lst es =>
        cases h'
        obtain ⟨xs, q1, q2⟩ := S.ce j a _ e1 hc
        exact .lst (.inl (.inl q1)) (dqall_dp (dqall_mono S.bh q2))
      | dead => cases h'
      | dK kvs => cases h'
      | dT kvs => cases h'
      | dN kvs => cases h'
      | dL kvs => cases h'
      | dF kvs => cases h'
def oEq : D2 := fun r1 r2 g k => ∃ x y, datOf g r1 = some x ∧ datOf g r2 = some y ∧ SeqAt.shaped x = true ∧ SeqAt.shaped y = true ∧ k (.d (.bool (PyData.eqv x y))) g
def oNe : D2 := fun r1 r2 g k => ∃ x y, datOf g r1 = some x ∧ datOf g r2 = some y ∧ SeqAt.shaped x = true ∧ SeqAt.shaped y = true ∧ k (.d (.bool (!PyData.eqv x y))) g
theorem pd_eq {da db : DE} (hu : X.A.units + 64 < cLine) (ha : PD ρ X a da) (hb : PD ρ X b db) : PD ρ X (.Compare a [.Eq] [b] pos) (dOp oEq da db) := pd_cmp (op_eqD hu) (nomark _) (by
  rintro F g tm s H B al x y r1 r2 k Q S hx hy ⟨dx, dy, e1, e2, s1, s2, hk⟩ q
  exact ⟨dx, dy, S.dat hx e1, S.dat hy e2, s1, s2, q _ H _ g B al hk S (Dq.bl _)⟩) ha hb
def isN : PyData → Bool
  | .none => true
  | _ => false
theorem dq_isN {B : Hp} {v : V} {x : PyData} (h : Dq B v x) : decide (v = .non) = isN x := by
  cases h <;> simp [isN]
theorem at_len {α β : Type} {xs : List α} {ys : List β} {i : Int} {y : β} (hl : xs.length = ys.length) (h : atI ys i = some y) : ∃ j : Nat, ixN xs.length i = some j ∧ ys[j]? = some y := by
  unfold atI at h
  rw [hl]
  cases e : ixN ys.length i with
  | none => rw [e] at h; cases h
  | some j => rw [e] at h; exact ⟨j, rfl, h⟩
theorem dqall_at {B : Hp} {xs : List V} {ds : List PyData} {i : Int} {d : PyData} (r : DqAll B xs ds) (h : atI ds i = some d) : ∃ x, atI xs i = some x ∧ Dq B x d := by
  obtain ⟨j, e1, e2⟩ := at_len (dqall_len r) h
  obtain ⟨x, h1, h2⟩ := dqall_get r e2
  refine ⟨x, ?_, h2⟩
  unfold atI
  rw [e1]
  exact h1
def oIx : D2 := fun r1 r2 g k => ∃ t ds i x, seqOf g r1 = some (t, ds) ∧ r2 = .d (.int i) ∧ atI ds i = some x ∧ k (.d x) g
theorem ref_ix {K : KR} : RefOp K (fun x y H Q => rIxL K.fr x y H Q ∨ rIxT K.fr x y H Q) oIx := by
  rintro F g tm s H B al x y r1 r2 k Q S hx hy ⟨t, ds, i, d, e1, rfl, e2, hk⟩ q
  cases dq_int hy
  obtain ⟨a, xs, rfl, h1, h2⟩ := S.seq hx e1
  obtain ⟨v, hv, hd⟩ := dqall_at h2 e2
  cases t with
  | false => exact .inl ⟨a, xs, i, v, rfl, rfl, h1, hv, q _ H _ g B al hk S hd⟩
  | true => exact .inr ⟨a, xs, i, v, rfl, rfl, h1, hv, q _ H _ g B al hk S hd⟩
theorem pd_ix {da db : DE} (ha : PD ρ X a da) (hb : PD ρ X b db) (hs : PlainIx b := by intro _ _; rfl) : PD ρ X (.Subscript a b pos) (dOp oIx da db) :=
  pe_imp (pe_ix (IxR.or ix_list ix_tup) ha hb hs) (ref_op ref_ix)
/-- the items of a slice -/
def cut {α : Type} (xs : List α) (lo hi : Option Int) : List α := (xs.drop (HT.sIx xs.length 0 lo)).take (HT.sIx xs.length xs.length hi - HT.sIx xs.length 0 lo)
theorem dqall_cut {B : Hp} {xs : List V} {ds : List PyData} (r : DqAll B xs ds) (lo hi : Option Int) : DqAll B (cutV xs lo hi) (cut ds lo hi) := by
  unfold cutV cut
  rw [dqall_len r]
  exact dqall_take _ (dqall_drop _ r)
abbrev DO := G → (Option Int → G → Prop) → Prop
def liftO (K : KR) (dt : DO) : TO := fun s H Q => ∃ F g tm k B al, Stt K F g tm s H B al ∧ dt g k ∧ ∀ b H' g' B' al', k b g' → Stt K F g' tm s H' B' al' → Q b H'
abbrev PDO (ρ : Root) (X : Cx) (e : Option Expr) (dt : DO) : Prop := PO X e (liftO ⟨X.K, ρ⟩ dt)
theorem po_imp {o : Option Expr} {t t' : TO} (h : PO X o t) (i : ∀ s H Q, t' s H Q → t s H Q) : PO X o t' := ⟨fun pins s σ H Q I q => h.run pins s σ H Q I (i σ H Q q)⟩
def dNo : DO := fun g k => k none g
def dPart (de : DE) : DO := fun g k => de g fun r g1 => ∃ i, r = .d (.int i) ∧ k (some i) g1
theorem pdo_none : PDO ρ X none dNo := po_imp po_none fun s H Q ⟨F, g, tm, k, B, al, S, hk, q⟩ => q none H g B al hk S
theorem pdo_some {de : DE} (h : PD ρ X e de) : PDO ρ X (some e) (dPart de) := po_imp (po_some h) fun s H Q ⟨F, g, tm, k, B, al, S, hk, q⟩ =>
  ⟨F, g, tm, _, B, al, S, hk, fun v H1 r g1 B1 al1 ⟨i, e, hk1⟩ S1 => by
    subst e
    cases dq_int (S1.top rfl)
    exact ⟨i, rfl, q _ H1 g1 B1 al1 hk1 (S1.temps fun p hp => List.mem_cons_of_mem _ hp)⟩⟩
/-- x[lo:hi] -/
def dSl (de : DE) (dl dh : DO) : DE := fun g k => de g fun r g1 => dl g1 fun lo g2 => dh g2 fun hi g3 => ∃ t ds, seqOf g3 r = some (t, ds) ∧ k (.d (if t then .tuple (cut ds lo hi) else .list (cut ds lo hi))) g3
theorem cut_whole {α : Type} {xs : List α} {lo hi : Option Int} (h : HT.sIx xs.length 0 lo = 0 ∧ HT.sIx xs.length xs.length hi = xs.length) : cut xs lo hi = xs := by
  unfold cut
  rw [h.1, h.2, List.drop_zero, Nat.sub_zero, List.take_length]
theorem pd_sl {de : DE} {dl dh : DO} {lo hi : Option Expr} {p2 : Pos} (he : PD ρ X e de) (hl : PDO ρ X lo dl) (hh : PDO ρ X hi dh) : PD ρ X (.Subscript e (.Slice lo hi none p2) pos) (dSl de dl dh) :=
  pe_imp (pe_slice (SlR.or sl_list sl_tupA) he hl hh) fun s H Q ⟨F, g, tm, k, B, al, S, hk, q⟩ => ⟨F, g, tm, _, B, al, S, hk, fun v H1 r g1 B1 al1 hk1 S1 => ⟨F, g1, (v, r) :: tm, _, B1, al1, S1, hk1, fun l H2 g2 B2 al2 hk2 S2 => ⟨F, g2, (v, r) :: tm, _, B2, al2, S2, hk2, fun h H3 g3 B3 al3 ⟨t, ds, e, hk3⟩ S3 => by
    obtain ⟨a, xs, rfl, h1, h2⟩ := S3.seq (S3.top rfl) e
    have hc := dqall_cut h2 l h
    have S4 := S3.temps (tm' := tm) fun p hp => List.mem_cons_of_mem _ hp
    have q' : ∀ v H' r g' B' al', k r g' → Stt ⟨X.K, ρ⟩ F g' tm s H' B' al' → RvOk ⟨X.K, ρ⟩ B' al' v r → Q v H' := fun v H' r g' B' al' hr S' rv => q v H' r g' B' al' hr (S'.push rv)
    cases t with
    | false => exact .inl ⟨a, xs, rfl, h1, fun p hp => new_l S4 hp hc hk3 q'⟩
    | true =>
      have er := seq_tup e
      subst er
      refine .inr ⟨a, xs, rfl, h1, fun hw => ?_, fun _ p hp => new_t S4 hp hc hk3 q'⟩
      rw [dqall_len h2] at hw
      have z : k (.d (.tuple (cut ds l h))) g3 := hk3
      rw [cut_whole hw] at z
      exact q' _ H3 _ g3 B3 al3 z S4 (S3.top rfl)⟩⟩⟩
/-- lists: x + y; tuples: x + y -/
def oCatL : D2 := fun r1 r2 g k => ∃ xs ys, seqOf g r1 = some (false, xs) ∧ seqOf g r2 = some (false, ys) ∧ isMade r1 = true ∧ isMade r2 = true ∧ xs.length + ys.length ≤ 100000 ∧ k (.d (.list (xs ++ ys))) g
def oCatT : D2 := fun r1 r2 g k => ∃ xs ys, r1 = .d (.tuple xs) ∧ r2 = .d (.tuple ys) ∧ xs.length + ys.length ≤ 100000 ∧ k (.d (.tuple (xs ++ ys))) g
def dAnd (da db : DE) : DE := fun g k => da g fun r g1 => ∃ c, r = .d (.bool c) ∧ if c = true then db g1 k else k (.d (.bool false)) g1
def dNot (da : DE) : DE := fun g k => da g fun r g1 => ∃ c, r = .d (.bool c) ∧ k (.d (.bool (!c))) g1
theorem pd_one {op} {de : DE} (h : PD ρ X a de) : PD ρ X (.BoolOp op [a] pos) de := pe_one h
theorem pd_and {rest : List Expr} {da db : DE} (ha : PD ρ X a da) (hb : PD ρ X (.BoolOp .And (b :: rest) pos) db) : PD ρ X (.BoolOp .And (a :: b :: rest) pos) (dAnd da db) :=
  pe_imp (pe_and ha hb) fun s H Q ⟨F, g, tm, k, B, al, S, hk, q⟩ => ⟨F, g, tm, _, B, al, S, hk, fun v H1 r g1 B1 al1 ⟨c, e, hk1⟩ S1 => by
    subst e
    cases dq_bool (S1.top rfl)
    have S2 := S1.temps (tm' := tm) fun p hp => List.mem_cons_of_mem _ hp
    refine ⟨c, rfl, ?_⟩
    cases c with
    | true => exact iteT ⟨F, g1, tm, k, B1, al1, S2, hk1, q⟩
    | false => exact iteF (q _ H1 _ g1 B1 al1 hk1 (S2.push (Dq.bl _)))⟩
theorem pd_not {da : DE} (ha : PD ρ X a da) : PD ρ X (.UnaryOp .Not a pos) (dNot da) := pe_imp (pe_not ha) fun s H Q ⟨F, g, tm, k, B, al, S, hk, q⟩ =>
  ⟨F, g, tm, _, B, al, S, hk, fun v H1 r g1 B1 al1 ⟨c, e, hk1⟩ S1 => by
    subst e
    cases dq_bool (S1.top rfl)
    exact ⟨c, rfl, q _ H1 _ g1 B1 al1 hk1 ((S1.temps fun p hp => List.mem_cons_of_mem _ hp).push (Dq.bl _))⟩⟩
def dTst (da : DE) : DT := fun g k => da g fun r g1 => ∃ c, r = .d (.bool c) ∧ k c g1
theorem ref_tst {K : KR} {da : DE} : ∀ s H Q, liftT K (dTst da) s H Q → tB (lift K da) s H Q := fun s H Q ⟨F, g, tm, k, B, al, S, hk, q⟩ =>
  ⟨F, g, tm, _, B, al, S, hk, fun v H1 r g1 B1 al1 ⟨c, e, hk1⟩ S1 => by
    subst e
    cases dq_bool (S1.top rfl)
    exact ⟨c, rfl, q c H1 g1 B1 al1 hk1 (S1.temps fun p hp => List.mem_cons_of_mem _ hp)⟩⟩
/-- a value that is True or False as a test -/
theorem pdt_val {da : DE} (h : PD ρ X e da) (he : ∀ whole, isTrue e X.env whole = (do let v ← whole; standAt e.pos; holding [v] (truthy v)) := by intro _; rfl) : PDT ρ X e (dTst da) := pt_imp (pt_val h he) ref_tst
def dAndT (t u : DT) : DT := fun g k => t g fun c g1 => if c = true then u g1 k else k false g1
def dOrT (t u : DT) : DT := fun g k => t g fun c g1 => if c = true then k true g1 else u g1 k
def dNotT (t : DT) : DT := fun g k => t g fun c g1 => k (!c) g1
abbrev PDW (ρ : Root) (X : Cx) (e : Expr) (dt : DT) : Prop := PW X e (liftT ⟨X.K, ρ⟩ dt)
theorem pw_imp {t t' : TT} (h : PW X e t) (i : ∀ s H Q, t' s H Q → t s H Q) : PW X e t' := ⟨fun w pins s σ H Q I q => h.run w pins s σ H Q I (i σ H Q q)⟩
theorem pdw_and1 {t : DT} (h : PDT ρ X a t) : PDW ρ X (.BoolOp .And [a] pos) t := pw_and1 h
theorem pdw_or1 {t : DT} (h : PDT ρ X a t) : PDW ρ X (.BoolOp .Or [a] pos) t := pw_or1 h
theorem pdw_and {rest : List Expr} {t u : DT} (ha : PDT ρ X a t) (hb : PDW ρ X (.BoolOp .And (b :: rest) pos) u) : PDW ρ X (.BoolOp .And (a :: b :: rest) pos) (dAndT t u) :=
  pw_imp (pw_and ha hb) fun s H Q ⟨F, g, tm, k, B, al, S, hk, q⟩ => ⟨F, g, tm, _, B, al, S, hk, fun c H1 g1 B1 al1 hk1 S1 => by
    cases c with
    | true => exact iteT ⟨F, g1, tm, k, B1, al1, S1, hk1, q⟩
    | false => exact iteF (q _ H1 g1 B1 al1 hk1 S1)⟩
theorem pdw_or {rest : List Expr} {t u : DT} (ha : PDT ρ X a t) (hb : PDW ρ X (.BoolOp .Or (b :: rest) pos) u) : PDW ρ X (.BoolOp .Or (a :: b :: rest) pos) (dOrT t u) :=
  pw_imp (pw_or ha hb) fun s H Q ⟨F, g, tm, k, B, al, S, hk, q⟩ => ⟨F, g, tm, _, B, al, S, hk, fun c H1 g1 B1 al1 hk1 S1 => by
    cases c with
    | true => exact iteT (q _ H1 g1 B1 al1 hk1 S1)
    | false => exact iteF ⟨F, g1, tm, k, B1, al1, S1, hk1, q⟩⟩
theorem pdt_w {t : DT} (h : PDW ρ X e t) : PDT ρ X e t := PW.pt h
theorem pdt_not {t : DT} (h : PDT ρ X a t) : PDT ρ X (.UnaryOp .Not a pos) (dNotT t) := pt_imp (pt_not h) fun s H Q ⟨F, g, tm, k, B, al, S, hk, q⟩ => ⟨F, g, tm, _, B, al, S, hk, fun c H1 g1 B1 al1 hk1 S1 => q _ H1 g1 B1 al1 hk1 S1⟩
theorem pdt_cmp {op : CmpOp} {r : R2} {dr : D2} {da db : DE} (ho : OpR X (compareOp op) r) (hm : behindInMarks op b = false) (h : RefOp ⟨X.K, ρ⟩ r dr) (ha : PD ρ X a da) (hb : PD ρ X b db) : PDT ρ X (.Compare a [op] [b] pos) (dTst (dOp dr da db)) :=
  pt_imp (pt_cmpR ho ha hb hm) fun s H Q hq => ref_op h s H _ (show lift ⟨X.K, ρ⟩ (dOp dr da db) s H (fun x H' => ∃ k, x = .bl k ∧ Q k H') from (by
    obtain ⟨F, g, tm, k, B, al, S, hk, q⟩ := hq
    exact ⟨F, g, tm, _, B, al, S, hk, fun v H1 r g1 B1 al1 ⟨c, e, hk1⟩ S1 => by
      subst e
      cases dq_bool (S1.top rfl)
      exact ⟨c, rfl, q c H1 g1 B1 al1 hk1 (S1.temps fun p hp => List.mem_cons_of_mem _ hp)⟩⟩))
theorem pdt_lt {da db : DE} (ha : PD ρ X a da) (hb : PD ρ X b db) : PDT ρ X (.Compare a [.Lt] [b] pos) (dTst (dOp oLt da db)) := pdt_cmp op_lt (nomark _) (ref_I0 fun _ _ _ => .bl _) ha hb
theorem pdt_gt {da db : DE} (ha : PD ρ X a da) (hb : PD ρ X b db) : PDT ρ X (.Compare a [.Gt] [b] pos) (dTst (dOp oGt da db)) := pdt_cmp op_gt (nomark _) (ref_I0 fun _ _ _ => .bl _) ha hb
theorem ref_eqd {K : KR} : RefOp K (rEqD K.fr) oEq := by
  rintro F g tm s H B al x y r1 r2 k Q S hx hy ⟨dx, dy, e1, e2, s1, s2, hk⟩ q
  exact ⟨dx, dy, S.dat hx e1, S.dat hy e2, s1, s2, q _ H _ g B al hk S (Dq.bl _)⟩
theorem ref_ned {K : KR} : RefOp K (rNeD K.fr) oNe := by
  rintro F g tm s H B al x y r1 r2 k Q S hx hy ⟨dx, dy, e1, e2, s1, s2, hk⟩ q
  exact ⟨dx, dy, S.dat hx e1, S.dat hy e2, s1, s2, q _ H _ g B al hk S (Dq.bl _)⟩
theorem pdt_eq {da db : DE} (hu : X.A.units + 64 < cLine) (ha : PD ρ X a da) (hb : PD ρ X b db) : PDT ρ X (.Compare a [.Eq] [b] pos) (dTst (dOp oEq da db)) := pdt_cmp (op_eqD hu) (nomark _) ref_eqd ha hb
theorem pdt_ne {da db : DE} (hu : X.A.units + 64 < cLine) (ha : PD ρ X a da) (hb : PD ρ X b db) : PDT ρ X (.Compare a [.NotEq] [b] pos) (dTst (dOp oNe da db)) := pdt_cmp (op_neD hu) (nomark _) ref_ned ha hb
/-- a if t else b -/
def dIf (t : DT) (da db : DE) : DE := fun g k => t g fun c g1 => if c = true then da g1 k else db g1 k
theorem pd_if {t : DT} {da db : DE} (hc : PDT ρ X c t) (ha : PD ρ X a da) (hb : PD ρ X b db) : PD ρ X (.IfExp c a b pos) (dIf t da db) := pe_imp (pe_ifExp hc ha hb) fun s H Q ⟨F, g, tm, k, B, al, S, hk, q⟩ =>
  ⟨F, g, tm, _, B, al, S, hk, fun c H1 g1 B1 al1 hk1 S1 => by
    cases c with
    | true => exact iteT ⟨F, g1, tm, k, B1, al1, S1, hk1, q⟩
    | false => exact iteF ⟨F, g1, tm, k, B1, al1, S1, hk1, q⟩⟩
end
end DL
set_option Elab.async false
set_option linter.all false
set_option maxRecDepth 100000
set_option maxHeartbeats 4000000
set_option autoImplicit false
namespace DL
open PySem PySem.Spec PyProof.Rows L2
section
variable {ρ : Root} {X : Cx} {e a b c tg : Expr} {es : List Expr} {pos : Pos}
abbrev DGs := List R → G → (G → Prop) → Prop
def liftG (K : KR) (ws : List Nat) (dg : DG) : TG := fun v s H Q => ∃ F g tm r k B al, Stt K F g tm s H B al ∧ RvOk K B al v r ∧ dg r g k ∧ ∀ s' H' g' B' al', k g' → Stt K F g' tm s' H' B' al' → wipe s' ws = wipe s ws → Q s' H'
def liftGs (K : KR) (ws : List Nat) (dg : DGs) : TGs := fun vs s H Q => ∃ F g tm rs k B al, Stt K F g tm s H B al ∧ Paired (RvOk K B al) vs rs ∧ dg rs g k ∧ ∀ s' H' g' B' al', k g' → Stt K F g' tm s' H' B' al' → wipe s' ws = wipe s ws → Q s' H'
abbrev PDG (ρ : Root) (X : Cx) (ws : List Nat) (tg : Expr) (dg : DG) : Prop := PG X tg (liftG ⟨X.K, ρ⟩ ws dg)
abbrev PDGs (ρ : Root) (X : Cx) (ws : List Nat) (tgs : List Expr) (dg : DGs) : Prop := PGs X tgs (liftGs ⟨X.K, ρ⟩ ws dg)
theorem pg_imp {t t' : TG} (h : PG X tg t) (i : ∀ v s H Q, t' v s H Q → t v s H Q) : PG X tg t' := ⟨fun pins s σ H v u Q I r q => h.run pins s σ H v u Q I r (i v σ H Q q)⟩
theorem pgs_imp {t t' : TGs} (h : PGs X es t) (i : ∀ v s H Q, t' v s H Q → t v s H Q) : PGs X es t' := ⟨fun pins s σ H v u Q I r q => h.run pins s σ H v u Q I r (i v σ H Q q)⟩
theorem wipe_set {s : L2.St} {v : Option V} {i : Nat} : ∀ {ws : List Nat}, i ∈ ws → wipe (s.set i v) ws = wipe s ws
  | [], h => by cases h
  | w :: ws, h => by
    unfold wipe
    by_cases e : i ∈ ws
    · rw [wipe_set e]
    · have ew : i = w := by
        rcases List.mem_cons.mp h with z | z
        · exact z
        · exact absurd z e
      subst ew
      have gen : ∀ us : List Nat, i ∉ us → (wipe (s.set i v) us).set i none = (wipe s us).set i none := by
        intro us
        induction us with
        | nil => intro _; unfold wipe; rw [List.set_set]
        | cons u us ih =>
          intro hu
          unfold wipe
          have h1 : i ≠ u := fun z => hu (z ▸ List.mem_cons_self)
          rw [List.set_comm _ _ (Ne.symm h1), ih (fun z => hu (List.mem_cons_of_mem _ z)), List.set_comm _ _ h1]
      exact gen ws e
def gN (i : Nat) : DG := fun r g k => k { g with sl := g.sl.set i (some r) }
theorem pdg_name {ws : List Nat} (i : Nat) {x : Str} (hN : X.N.Nodup) (hw : i ∈ ws) (hi : X.N[i]? = some x) (hx : Loc X.env.scope x) (hf : X.fn x = true ∨ X.env.scope.names.lookup x = some .local := by first | exact .inl rfl | exact .inr rfl | assumption) : PDG ρ X ws (.Name x pos) (gN i) :=
  pg_imp (pg_name hN hi hx hf) fun v s H Q ⟨F, g, tm, r, k, B, al, S, hv, hk, q⟩ => q _ H _ B al hk (S.store hv) (wipe_set hw)
def gsN : DGs := fun rs g k => rs = [] ∧ k g
def gsC (t : DG) (u : DGs) : DGs := fun rs g k => ∃ r rs', rs = r :: rs' ∧ t r g fun g1 => u rs' g1 k
theorem pdgs_nil {ws : List Nat} : PDGs ρ X ws [] gsN := pgs_imp pgs_nil fun vs s H Q ⟨F, g, tm, rs, k, B, al, S, hv, ⟨e, hk⟩, q⟩ => by
  subst e
  cases hv
  exact ⟨rfl, q _ H _ B al hk S rfl⟩
theorem Stt.pushes {K : KR} {F : Fm} {g : G} {tm : List (V × R)} {s : L2.St} {H B : Hp} {al : List Addr} {vs : List V} {rs : List R} (S : Stt K F g tm s H B al) (h : Paired (RvOk K B al) vs rs) : Stt K F g (vs.zip rs ++ tm) s H B al := by
  induction h with
  | nil => exact S
  | cons a b ih => exact ih.push a
theorem paired_of {K : KR} {B : Hp} {al : List Addr} : ∀ {vs : List V} {rs : List R}, vs.length = rs.length → (∀ p ∈ vs.zip rs, RvOk K B al p.1 p.2) → Paired (RvOk K B al) vs rs
  | [], [], _, _ => .nil
  | v :: vs, r :: rs, hl, h => .cons (h (v, r) (by simp)) (paired_of (by simpa using hl) fun p hp => h p (by rw [List.zip_cons_cons]; exact List.mem_cons_of_mem _ hp))
  | [], _ :: _, hl, _ => by simp at hl
  | _ :: _, [], hl, _ => by simp at hl
theorem pdgs_cons {ws : List Nat} {t : DG} {u : DGs} (h1 : PDG ρ X ws e t) (h2 : PDGs ρ X ws es u) (hs : (assignEach (e :: es) X.env).map (·.2) = assign e X.env :: (assignEach es X.env).map (·.2) := by rfl) : PDGs ρ X ws (e :: es) (gsC t u) :=
  pgs_imp (pgs_cons h1 h2 hs) fun vs s H Q ⟨F, g, tm, rs, k, B, al, S, hv, ⟨r, rs', er, hk⟩, q⟩ => by
    subst er
    cases hv with
    | @cons v _ vs' _ a b =>
      refine ⟨v, vs', rfl, F, g, vs'.zip rs' ++ tm, r, _, B, al, S.pushes b, a, hk, fun s1 H1 g1 B1 al1 hk1 S1 w1 => ?_⟩
      refine ⟨F, g1, tm, rs', k, B1, al1, S1.temps fun p hp => List.mem_append_right _ hp, paired_of b.length fun p hp => S1.tm p (List.mem_append_left _ hp), hk1, fun s2 H2 g2 B2 al2 hk2 S2 w2 => q s2 H2 g2 B2 al2 hk2 S2 (w2.trans w1)⟩
def gT (n : Nat) (t : DGs) : DG := fun r g k => ∃ ds, r = .d (.tuple ds) ∧ ds.length = n ∧ t (ds.map .d) g k
theorem dq_paired {K : KR} {B : Hp} {al : List Addr} : ∀ {xs : List V} {ds : List PyData}, DqAll B xs ds → Paired (RvOk K B al) xs (ds.map .d)
  | _, _, .nil => .nil
  | _, _, .cons r t => .cons r (dq_paired t)
/-- o[i] = v, o an own list -/
def gSubL (do_ di : DE) : DG := fun r g k => do_ g fun r1 g1 => di g1 fun r2 g2 => ∃ j ds i n x, r1 = .o j ∧ g2.ce[j]? = some (.lst ds) ∧ r2 = .d (.int i) ∧ ixN ds.length i = some n ∧ r = .d x ∧ k { g2 with ce := g2.ce.set j (.lst (ds.set n x)) }
theorem pdg_subL {ws : List Nat} {o i : Expr} {dd di : DE} (ho : PD ρ X o dd) (hi : PD ρ X i di)
    (ha : ∀ v, assign (.Subscript o i pos) X.env v = (do
      let ov ← holding [v] (eval o X.env)
      let iv ← holding [v, ov] (eval i X.env)
      standAt pos
      holding [v, ov, iv] (setItem ov iv v)
      release [v, ov, iv] []) := by intro _; rfl) : PDG ρ X ws (.Subscript o i pos) (gSubL dd di) :=
  pg_imp (pg_sub ho hi set_list ha) fun v s H Q ⟨F, g, tm, r, k, B, al, S, hv, hk, q⟩ => ⟨F, g, (v, r) :: tm, _, B, al, S.push hv, hk, fun x H1 r1 g1 B1 al1 hk1 S1 => ⟨F, g1, (x, r1) :: (v, r) :: tm, _, B1, al1, S1, hk1, fun y H2 r2 g2 B2 al2 ⟨j, ds, i, n, xd, e1, e2, e3, e4, e5, hk2⟩ S2 => by
    subst e1 e3 e5
    obtain ⟨p, hp, ex⟩ := S2.tm (x, R.o j) (by simp)
    have ex : x = .ref p := ex
    subst ex
    have ey := dq_int (S2.top rfl)
    have ey : y = .int i := ey
    subst ey
    have hv2 : Dq B2 v xd := S2.tm (v, R.d xd) (by simp)
    obtain ⟨xs, h1, h2⟩ := S2.ce j p _ hp e2
    refine ⟨p, xs, i, n, rfl, rfl, h1, by rw [dqall_len h2]; exact e4, ?_⟩
    exact q s _ _ B2 al2 hk2 ((S2.temps fun z hz => List.mem_cons_of_mem _ (List.mem_cons_of_mem _ (List.mem_cons_of_mem _ hz))).put hp e2 (by simp) ⟨_, upd_same, dqall_set hv2 n h2⟩) rfl⟩⟩
end
section
variable {ρ : Root} {X : Cx} {st : Stmt} {rest : List Stmt} {e c tg : Expr} {pos : Pos} {K : KR}
def sNext : DS := fun E g => E.nx g
def sSeq (t u : DS) : DS := fun E g => t { E with nx := u E } g
theorem pdss_nil : PDSs ρ X [] sNext := pss_imp pss_nil fun D s H ⟨F, g, tm, E, B, al, S, h, ok⟩ => ok.nx s H g B al h S
theorem pdss_cons {t u : DS} (h1 : PDS ρ X st t) (h2 : PDSs ρ X rest u) : PDSs ρ X (st :: rest) (sSeq t u) := pss_imp (pss_cons h1 h2) fun D s H ⟨F, g, tm, E, B, al, S, h, ok⟩ =>
  ⟨F, g, tm, { E with nx := u E }, B, al, S, h, ⟨fun s1 H1 g1 B1 al1 hk S1 => ⟨F, g1, tm, E, B1, al1, S1, hk, ok⟩, ok.rt, ok.bk, ok.ct, ok.tm0⟩⟩
theorem pdss_one {t : DS} (h1 : PDS ρ X st t) : PDSs ρ X [st] t := pss_one h1
def sExpr (de : DE) : DS := fun E g => de g fun _ g1 => E.nx g1
theorem pds_expr {de : DE} (he : PD ρ X e de) (hs : swapsWith e none pos.line X.env = pure false := by rfl) : PDS ρ X (.Expr e pos) (sExpr de) := ps_imp (ps_expr he hs) fun D s H ⟨F, g, tm, E, B, al, S, h, ok⟩ =>
  ⟨F, g, tm, _, B, al, S, h, fun v H1 r g1 B1 al1 hk S1 => ok.nx s H1 g1 B1 al1 hk (S1.temps fun p hp => List.mem_cons_of_mem _ hp)⟩
def sRet (de : DE) : DS := fun E g => de g E.rt
theorem pds_ret {de : DE} (he : PD ρ X e de) : PDS ρ X (.Return (some e) pos) (sRet de) := ps_imp (ps_ret he) fun D s H ⟨F, g, tm, E, B, al, S, h, ok⟩ =>
  ⟨F, g, tm, _, B, al, S, h, fun v H1 r g1 B1 al1 hk S1 => ok.rt s v H1 r g1 B1 al1 hk S1⟩
def sIf (t : DT) (a b : DS) : DS := fun E g => t g fun c g1 => if c = true then a E g1 else b E g1
theorem pds_if {a b : List Stmt} {t : DT} {u v : DS} (hc : PDT ρ X c t) (ha : PDSs ρ X a u) (hb : PDSs ρ X b v) : PDS ρ X (.If c a b pos) (sIf t u v) := ps_imp (ps_if hc ha hb) fun D s H ⟨F, g, tm, E, B, al, S, h, ok⟩ =>
  ⟨F, g, tm, _, B, al, S, h, fun b H1 g1 B1 al1 hk S1 => by
    cases b with
    | true => exact iteT ⟨F, g1, tm, E, B1, al1, S1, hk, ok⟩
    | false => exact iteF ⟨F, g1, tm, E, B1, al1, S1, hk, ok⟩⟩
def sAsg (de : DE) (dg : DG) : DS := fun E g => de g fun r g1 => dg r g1 E.nx
theorem ref_asg {ws : List Nat} {de : DE} {dg : DG} : ∀ D s H, liftS K (sAsg de dg) D s H → tAsg (lift K de) (liftG K ws dg) D s H := fun D s H ⟨F, g, tm, E, B, al, S, h, ok⟩ =>
  ⟨F, g, tm, _, B, al, S, h, fun v H1 r g1 B1 al1 hk S1 => ⟨F, g1, tm, r, _, B1, al1, S1.temps fun p hp => List.mem_cons_of_mem _ hp, S1.top rfl, hk, fun s' H' g' B' al' hk' S' _ => ok.nx s' H' g' B' al' hk' S'⟩⟩
theorem pds_asg {ws : List Nat} {de : DE} {dg : DG} (he : PD ρ X e de) (hg : PDG ρ X ws tg dg) (hs : swapsWithSole [tg] e pos.line X.env = pure false := by rfl) (hw : swappedStores [tg] e X.env = pure none := by rfl)
    (h1 : (assignEach [tg] X.env).map (·.2) = [assign tg X.env] := by rfl) : PDS ρ X (.Assign [tg] e pos) (sAsg de dg) := ps_imp (ps_asg he hg hs hw h1) ref_asg
theorem ref_asgN {i : Nat} {de : DE} : ∀ D s H, liftS K (sAsg de (gN i)) D s H → tAsg (lift K de) (gName i) D s H := fun D s H ⟨F, g, tm, E, B, al, S, h, ok⟩ =>
  ⟨F, g, tm, _, B, al, S, h, fun v H1 r g1 B1 al1 hk S1 => ok.nx _ H1 _ B1 al1 hk ((S1.temps (tm' := tm) fun p hp => List.mem_cons_of_mem _ hp).store (S1.top rfl))⟩
theorem pds_set {i : Nat} {x : Str} {de : DE} {pos' : Pos} (hN : X.N.Nodup) (hi : X.N[i]? = some x) (hx : Loc X.env.scope x) (he : PD ρ X e de) (hs : swapsWith e (some (.Name x pos')) pos.line X.env = pure false := by rfl)
    (hf : X.fn x = true ∨ X.env.scope.names.lookup x = some .local := by first | exact .inl rfl | exact .inr rfl | assumption) : PDS ρ X (.Assign [.Name x pos'] e pos) (sAsg de (gN i)) := ps_imp (ps_set hN hi hx he hs hf) ref_asgN
/-- a, b = x, y -/
def sPar (i j : Nat) (da : DA) : DS := fun E g => da g fun rs g1 => ∃ r1 r2, rs = [r1, r2] ∧ E.nx { g1 with sl := (g1.sl.set i (some r1)).set j (some r2) }
theorem pds_par {i j : Nat} {x y : Str} {a b : Expr} {da : DA} {px py pt : Pos} {kt k2 pt2} (hc : X.calm = true) (hN : X.N.Nodup) (hi : X.N[i]? = some x) (hj : X.N[j]? = some y) (hij : i ≠ j)
    (hx : X.env.scope.names.lookup x = some .local) (hy : X.env.scope.names.lookup y = some .local) (ha : PDA ρ X [a, b] da) (hw : swappedStores [.Tuple [.Name x px, .Name y py] kt pt] (.Tuple [a, b] k2 pt2) X.env = pure (some [x, y]))
    (hs : swapsWithSole [.Tuple [.Name x px, .Name y py] kt pt] (.Tuple [a, b] k2 pt2) pos.line X.env = pure false := by rfl) : PDS ρ X (.Assign [.Tuple [.Name x px, .Name y py] kt pt] (.Tuple [a, b] k2 pt2) pos) (sPar i j da) :=
  ps_imp (ps_par hc hN hi hj hij hx hy ha hw hs) fun D s H ⟨F, g, tm, E, B, al, S, h, ok⟩ => ⟨F, g, tm, _, B, al, S, h, fun vs H1 rs g1 B1 al1 ⟨r1, r2, er, hk⟩ S1 pr => by
    subst er
    obtain ⟨v, w, rfl, hv, hw⟩ := pair2 pr
    exact ⟨v, w, rfl, ok.nx _ H1 _ B1 al1 hk ((S1.store hv).store hw)⟩⟩
def sWhile (t : DT) (u : DS) : DS := fun E g => ∃ W : Nat → G → Prop, (∃ m, W m g) ∧ ∀ m g, W m g → t g fun c g1 => if c = true then u { E with nx := fun g' => ∃ m', m' < m ∧ W m' g', ct := fun g' => ∃ m', m' < m ∧ W m' g', bk := E.nx } g1 else E.nx g1
theorem pds_while {body : List Stmt} {t : DT} {u : DS} (hp : PassesOwn (model X.prog X.w) X.A X.env X.xe) (hc : PDT ρ X c t) (hb : PDSs ρ X body u) : PDS ρ X (.While c body [] pos) (sWhile t u) :=
  ps_imp (ps_while hp hc hb) fun D s H ⟨F, g, tm, E, B, al, S, ⟨W, ⟨m0, w0⟩, turn⟩, ok⟩ => by
    refine ⟨fun m s H => ∃ g B al, Stt ⟨X.K, ρ⟩ F g tm s H B al ∧ W m g, ⟨m0, g, B, al, S, w0⟩, ?_⟩
    rintro m s1 H1 ⟨g1, B1, al1, S1, w1⟩
    refine ⟨F, g1, tm, _, B1, al1, S1, turn m g1 w1, fun b H2 g2 B2 al2 hk S2 => ?_⟩
    cases b with
    | true =>
      refine iteT ⟨fun s' H' => ∃ g B al, Stt ⟨X.K, ρ⟩ F g tm s' H' B al ∧ ∃ m', m' < m ∧ W m' g, fun s' H' ⟨g', B', al', S', m', hm, w'⟩ => ⟨m', hm, g', B', al', S', w'⟩, ?_⟩
      exact ⟨F, g2, tm, _, B2, al2, S2, hk, ⟨fun s' H' g' B' al' h' S' => ⟨g', B', al', S', h'⟩, ok.rt, fun s' H' g' B' al' h' S' => ok.nx s' H' g' B' al' h' S', fun s' H' g' B' al' h' S' => ⟨g', B', al', S', h'⟩, ok.tm0⟩⟩
    | false => exact iteF (ok.nx s1 H2 g2 B2 al2 hk S2)
abbrev DI := G → (List PyData → G → Prop) → Prop
def WalkOk (K : KR) (B0 : Hp) (J : It) (ds : List PyData) : Prop := ∀ F g tm s H B al i, Stt K F g tm s H B al → Same B0 B →
  (∀ d, ds[i]? = some d → J.go i H ∧ ∀ x H', J.yld i H x H' → ∃ B', Stt K F g tm s H' B' al ∧ Same B B' ∧ Dq B' x d) ∧ (i = ds.length → J.stop i H)
def liftI (K : KR) (di : DI) : TI := fun s H Q => ∃ F g tm k B al, Stt K F g tm s H B al ∧ di g k ∧ ∀ J H' ds g' B' al', k ds g' → Stt K F g' tm s H' B' al' → WalkOk K B' J ds → Q J H'
abbrev PDI (ρ : Root) (X : Cx) (tg iter : Expr) (di : DI) : Prop := PI X tg iter (liftI ⟨X.K, ρ⟩ di)
theorem pi_imp {iter : Expr} {t t' : TI} (h : PI X tg iter t) (i : ∀ s H Q, t' s H Q → t s H Q) : PI X tg iter t' := ⟨fun pins s σ H Q I q => h.run pins s σ H Q I (i σ H Q q)⟩
/-- the whole numbers lo, lo + 1, .. -/
def rng (lo : Int) (n : Nat) : List PyData := (List.range n).map fun (i : Nat) => .int (lo + i)
theorem walk_rng {B : Hp} {lo : Int} {n : Nat} : WalkOk K B (Itr lo n) (rng lo n) := fun F g tm s H B1 al i S e => by
  have hl : (rng lo n).length = n := by unfold rng; rw [List.length_map, List.length_range]
  refine ⟨fun d hd => ?_, fun hi => by rw [hi, hl]; exact Nat.le_refl _⟩
  have hi : i < n := by
    have z := (List.getElem?_eq_some_iff.mp hd).1
    rw [hl] at z
    exact z
  have ed : d = .int (lo + i) := by
    unfold rng at hd
    rw [List.getElem?_map, List.getElem?_range hi] at hd
    exact (Option.some.inj hd).symm
  subst ed
  refine ⟨hi, fun y H' ⟨e1, e2⟩ => ?_⟩
  subst e1 e2
  exact ⟨B1, S, Same.refl _, Dq.int _⟩
def iR1 (da : DA) : DI := fun g k => da g fun rs g1 => ∃ j : Int, rs = [.d (.int j)] ∧ -(2 ^ 62) ≤ j ∧ j < 2 ^ 62 ∧ k (rng 0 j.toNat) g1
theorem pdi_range1 {a : Expr} {da : DA} {p : Pos} (hg : Gl X "range") (hm : X.mg "range" = none) (ha : PDA ρ X [a] da) (hs : starEach [a] X.env = [(false, eval a X.env)] := by rfl) : PDI ρ X tg (.Call (.Name "range" p) [a] [] pos) (iR1 da) :=
  pi_imp (pi_range1 hg hm ha hs) fun s H Q ⟨F, g, tm, k, B, al, S, hk, q⟩ => ⟨F, g, tm, _, B, al, S, hk, fun vs H1 rs g1 B1 al1 ⟨j, er, h1, h2, hk1⟩ S1 pr => by
    subst er
    obtain ⟨v, rfl, hv⟩ := pair1 pr
    cases dq_int hv
    exact ⟨j, rfl, h1, h2, q _ H1 _ g1 B1 al1 hk1 S1 walk_rng⟩⟩
def iR2 (da : DA) : DI := fun g k => da g fun rs g1 => ∃ i j : Int, rs = [.d (.int i), .d (.int j)] ∧ (-(2 ^ 62) ≤ i ∧ i < 2 ^ 62 ∧ -(2 ^ 62) ≤ j ∧ j < 2 ^ 62) ∧ k (rng i (j - i).toNat) g1
theorem pdi_range2 {a b : Expr} {da : DA} {p : Pos} (hg : Gl X "range") (hm : X.mg "range" = none) (ha : PDA ρ X [a, b] da) (hs : starEach [a, b] X.env = [(false, eval a X.env), (false, eval b X.env)] := by rfl) (hs2 : starEach [b] X.env = [(false, eval b X.env)] := by rfl) :
    PDI ρ X tg (.Call (.Name "range" p) [a, b] [] pos) (iR2 da) :=
  pi_imp (pi_range2 hg hm ha hs hs2) fun s H Q ⟨F, g, tm, k, B, al, S, hk, q⟩ => ⟨F, g, tm, _, B, al, S, hk, fun vs H1 rs g1 B1 al1 ⟨i, j, er, h1, hk1⟩ S1 pr => by
    subst er
    obtain ⟨v, w, rfl, hv, hw⟩ := pair2 pr
    cases dq_int hv
    cases dq_int hw
    exact ⟨i, j, rfl, h1, q _ H1 _ g1 B1 al1 hk1 S1 walk_rng⟩⟩
theorem Stt.reframe {F F' : Fm} {g : G} {tm : List (V × R)} {s : L2.St} {H B : Hp} {al : List Addr} (S : Stt K F g tm s H B al) (h0 : Same K.rt.B F'.B) (h1 : Same F'.B B) (h2 : F'.O = F.O) (h3 : F'.P = F.P) : Stt K F' g tm s H B al :=
  { S with rb := h0, ro := (by rw [h2]; exact S.ro), rp := (by rw [h3]; exact S.rp), ot := (by rw [h2]; exact S.ot), fb := h1, fo := by rw [h2]; exact S.fo, pre := by rw [h3]; exact S.pre }
def sFor (di : DI) (dg : DG) (u : DS) : DS := fun E g => di g fun ds g1 => ∃ I : Nat → G → Prop, I 0 g1 ∧ ∀ i g, I i g → (i = ds.length → E.nx g) ∧ ∀ x, ds[i]? = some x → dg (.d x) g fun g2 => u { E with nx := I (i + 1), ct := I (i + 1), bk := E.nx } g2
theorem pds_for {ws : List Nat} {iter : Expr} {body : List Stmt} {di : DI} {dg : DG} {u : DS} (hp : PassesOwn (model X.prog X.w) X.A X.env X.xe) (hc : X.calm = true) (hi : PDI ρ X tg iter di) (hg : PDG ρ X ws tg dg) (hb : PDSs ρ X body u)
    (hs : ∀ x, foldedSetIterable iter X.env x = pure x := by intro _; rfl) : PDS ρ X (.For tg iter body [] pos) (sFor di dg u) :=
  ps_imp (ps_for hp hc hi hg hb hs) fun D s H ⟨F, g, tm, E, B, al, S, h, ok⟩ => ⟨F, g, tm, _, B, al, S, h, fun J H1 ds g1 B1 al1 ⟨I, i0, turn⟩ S1 wk => by
    have fF : ∀ {g : G} {tm : List (V × R)} {s : L2.St} {H B : Hp} {al : List Addr}, Stt ⟨X.K, ρ⟩ ⟨B1, F.O, F.P⟩ g tm s H B al → Stt ⟨X.K, ρ⟩ F g tm s H B al := fun {g tm s H B al} S' => S'.reframe S1.rb (S1.fb.trans S'.fb) rfl rfl
    refine ⟨fun i m s H => m = ds.length - i ∧ i ≤ ds.length ∧ ∃ g B al, I i g ∧ Stt ⟨X.K, ρ⟩ ⟨B1, F.O, F.P⟩ g tm s H B al, ⟨ds.length, rfl, Nat.zero_le _, g1, B1, al1, i0, S1.reframe (S1.rb.trans S1.fb) (Same.refl _) rfl rfl⟩, ?_⟩
    rintro i m s2 H2 ⟨rfl, hi, g2, B2, al2, hI, S2⟩
    obtain ⟨t1, t2⟩ := turn i g2 hI
    obtain ⟨w1, w2⟩ := wk _ g2 tm s2 H2 B2 al2 i S2 S2.fb
    by_cases hlt : i < ds.length
    · obtain ⟨go, yl⟩ := w1 _ (List.getElem?_eq_getElem hlt)
      refine .inr ⟨go, fun s H => ∃ g B al, I (i + 1) g ∧ Stt ⟨X.K, ρ⟩ ⟨B1, F.O, F.P⟩ g tm s H B al, fun s' H' ⟨g', B', al', hI', S'⟩ => ⟨ds.length - (i + 1), by omega, rfl, hlt, g', B', al', hI', S'⟩, fun x H3 hy => ?_⟩
      obtain ⟨B3, S3, e3, hd⟩ := yl x H3 hy
      refine ⟨_, g2, tm, .d _, _, B3, al2, S3, hd, t2 _ (List.getElem?_eq_getElem hlt), fun s4 H4 g4 B4 al4 hk4 S4 _ => ?_⟩
      exact ⟨_, g4, tm, _, B4, al4, S4, hk4, ⟨fun s' H' g' B' al' h' S' => ⟨g', B', al', h', S'⟩, fun s' v H' r g' B' al' h' S' => ok.rt s' v H' r g' B' al' h' (fF S'), fun s' H' g' B' al' h' S' => ok.nx s' H' g' B' al' h' (fF S'), fun s' H' g' B' al' h' S' => ⟨g', B', al', h', S'⟩, ok.tm0⟩⟩
    · have e : i = ds.length := by omega
      exact .inl ⟨w2 e, ok.nx s2 H2 g2 B2 al2 (t1 e) (fF S2)⟩⟩
end
end DL
set_option Elab.async false
set_option linter.all false
set_option maxRecDepth 100000
set_option maxHeartbeats 4000000
set_option autoImplicit false
namespace DL
open PySem PySem.Spec PyProof.Rows L2
section
variable {ρ : Root} {X : Cx} {e a b c o : Expr} {es : List Expr} {pos : Pos} {K : KR}
theorem CallR.or {f : Value} {r r' : List V → Hp → VK → Prop} (h : CallR X f r) (h' : CallR X f r') : CallR X f (fun xs H Q => r xs H Q ∨ r' xs H Q) := by
  intro pins s σ H vs us Q I rr q
  rcases q with q | q
  · exact h pins s σ H vs us Q I rr q
  · exact h' pins s σ H vs us Q I rr q
/-- ascending whole numbers -/
def srt (ns : List Int) : List Int := ns.mergeSort (fun i j => decide (i ≤ j))
theorem srt_perm (ns : List Int) : (srt ns).Perm ns := List.mergeSort_perm _ _
theorem srt_sorted (ns : List Int) : (srt ns).Pairwise (· ≤ ·) := by
  have h := List.pairwise_mergeSort (le := fun (i j : Int) => decide (i ≤ j)) (fun a b c h1 h2 => by simp only [decide_eq_true_eq] at *; omega) (fun a b => by simp only [Bool.or_eq_true, decide_eq_true_eq]; omega) ns
  exact h.imp fun h => by simpa using h
theorem sorted_uniq {l l' : List Int} (hp : l.Perm l') (h : l.Pairwise (· ≤ ·)) (h' : l'.Pairwise (· ≤ ·)) : l = l' :=
  hp.eq_of_pairwise (fun a b _ _ h1 h2 => Int.le_antisymm h1 h2) h h'
theorem srt_eq {ns l : List Int} (hp : l.Perm ns) (h : l.Pairwise (· ≤ ·)) : l = srt ns := sorted_uniq (hp.trans (srt_perm ns).symm) h (srt_sorted ns)
abbrev DM := R → List R → G → (R → G → Prop) → Prop
def RefM (K : KR) (r : V → List V → Hp → VK → Prop) (dm : DM) : Prop := ∀ F g tm s H B al x vs r0 rs k Q, Stt K F g tm s H B al → RvOk K B al x r0 → Paired (RvOk K B al) vs rs → dm r0 rs g k →
  (∀ v H' r g' B' al', k r g' → Stt K F g' tm s H' B' al' → RvOk K B' al' v r → Q v H') → r x vs H Q
def dMeth (dm : DM) (dd : DE) (da : DA) : DE := fun g k => dd g fun r g1 => (∃ ds, seqOf g1 r = some (false, ds)) ∧ da g1 fun rs g2 => dm r rs g2 k
theorem pd_meth {name : Str} {apos cpos : Pos} {id : String} {r : V → List V → Hp → VK → Prop} {dm : DM} {dd : DE} {da : DA} (slot : Slot "list" name id) (hty : typeOf (.builtin id) = pure (.type "method_descriptor")) (hm : MtR X id r) (h : RefM ⟨X.K, ρ⟩ r dm) (ho : PD ρ X o dd) (ha : PDA ρ X (e :: es) da)
    (hbase : attributeBase o name X.env (eval o X.env) = eval o X.env := by rfl)
    (hfew : ((backTo cpos (starEach (e :: es) X.env)).all (fun x => !x.1) && (backToKw cpos (keywordEach [] X.env)).all (fun x => x.1.isSome) && decide ((e :: es).length + ([] : List Keyword).length + (if ([] : List Keyword).isEmpty then 0 else 1) < 30)) = true := by rfl)
    (hline : (apos.endLine == cpos.line) = true := by rfl) (hs : starEach (e :: es) X.env = (false, eval e X.env) :: starEach es X.env := by rfl) (hplain : (backTo cpos (starEach es X.env)).any (·.1) = false := by rfl) :
    PD ρ X (.Call (.Attribute o name apos) (e :: es) [] cpos) (dMeth dm dd da) :=
  pe_imp (pe_bm PySem.F.plainAttrs_list slot hty hm ho ha hbase hfew hline hs hplain) fun s H Q ⟨F, g, tm, k, B, al, S, hk, q⟩ => ⟨F, g, tm, _, B, al, S, hk, fun x H1 r1 g1 B1 al1 ⟨⟨ds, hd⟩, hk1⟩ S1 => by
    obtain ⟨a, xs, rfl, h1, h2⟩ := S1.seq (S1.top rfl) hd
    exact ⟨.inl ⟨rfl, xs, h1⟩, F, g1, (V.ref a, r1) :: tm, _, B1, al1, S1, hk1, fun vs H2 rs g2 B2 al2 hk2 S2 pr =>
      h F g2 tm s H2 B2 al2 (.ref a) vs r1 rs k Q (S2.temps fun p hp => List.mem_cons_of_mem _ hp) (S2.top rfl) pr hk2 fun v H' r g' B' al' hr S' rv => q v H' r g' B' al' hr (S'.push rv)⟩⟩
def mAppend : DM := fun r rs g k => ∃ j ds x, r = .o j ∧ rs = [.d x] ∧ g.ce[j]? = some (.lst ds) ∧ ds.length < 100000 ∧ k (.d .none) { g with ce := g.ce.set j (.lst (ds ++ [x])) }
theorem ref_append : RefM K rAppend mAppend := by
  rintro F g tm s H B al x vs r0 rs k Q S hx pr ⟨j, ds, y, rfl, rfl, hc, hz, hk⟩ q
  obtain ⟨p, hp, rfl⟩ := hx
  obtain ⟨v, rfl, hv⟩ := pair1 pr
  obtain ⟨xs, h1, h2⟩ := S.ce j p _ hp hc
  exact ⟨p, xs, v, rfl, rfl, h1, by rw [dqall_len h2]; exact sz_lt hz, q _ _ _ _ B al hk (S.put hp hc (by simp) ⟨_, upd_same, dqall_app h2 (.cons hv .nil)⟩) Dq.non⟩
theorem pd_append {apos cpos : Pos} {dd : DE} {da : DA} (ho : PD ρ X o dd) (ha : PDA ρ X (e :: es) da)
    (hbase : attributeBase o "append" X.env (eval o X.env) = eval o X.env := by rfl)
    (hfew : ((backTo cpos (starEach (e :: es) X.env)).all (fun x => !x.1) && (backToKw cpos (keywordEach [] X.env)).all (fun x => x.1.isSome) && decide ((e :: es).length + ([] : List Keyword).length + (if ([] : List Keyword).isEmpty then 0 else 1) < 30)) = true := by rfl)
    (hline : (apos.endLine == cpos.line) = true := by rfl) (hs : starEach (e :: es) X.env = (false, eval e X.env) :: starEach es X.env := by rfl) (hplain : (backTo cpos (starEach es X.env)).any (·.1) = false := by rfl) :
    PD ρ X (.Call (.Attribute o "append" apos) (e :: es) [] cpos) (dMeth mAppend dd da) := pd_meth PySem.F.slot_list_append PySem.F.type_list_append mt_append ref_append ho ha hbase hfew hline hs hplain
def mInsert : DM := fun r rs g k => ∃ j ds x i, r = .o j ∧ rs = [.d (.int i), .d x] ∧ g.ce[j]? = some (.lst ds) ∧ ds.length < 100000 ∧ 0 ≤ i ∧ i < 2 ^ 63 ∧ k (.d .none) { g with ce := g.ce.set j (.lst (ds.take i.toNat ++ [x] ++ ds.drop i.toNat)) }
theorem ref_insert : RefM K (fun x vs H Q => ∃ (l : Addr) (xs : List V) (i : Int) (y : V), x = .ref l ∧ vs = [.int i, y] ∧ H l = some (.lst xs) ∧ xs.length < sizeLine ∧ 0 ≤ i ∧ i < 2 ^ 63 ∧ Q .non (upd H l (.lst (xs.take i.toNat ++ [y] ++ xs.drop i.toNat)))) mInsert := by
  rintro F g tm s H B al x vs r0 rs k Q S hx pr ⟨j, ds, y, i, rfl, rfl, hc, hz, h0, h63, hk⟩ q
  obtain ⟨p, hp, rfl⟩ := hx
  obtain ⟨v, w, rfl, hv, hw⟩ := pair2 pr
  cases dq_int hv
  obtain ⟨xs, h1, h2⟩ := S.ce j p _ hp hc
  exact ⟨p, xs, i, w, rfl, rfl, h1, by rw [dqall_len h2]; exact sz_lt hz, h0, h63, q _ _ _ _ B al hk (S.put hp hc (by simp) ⟨_, upd_same, dqall_app (dqall_app (dqall_take _ h2) (.cons hw .nil)) (dqall_drop _ h2)⟩) Dq.non⟩
theorem pd_insert {apos cpos : Pos} {dd : DE} {da : DA} (ho : PD ρ X o dd) (ha : PDA ρ X (e :: es) da)
    (hbase : attributeBase o "insert" X.env (eval o X.env) = eval o X.env := by rfl)
    (hfew : ((backTo cpos (starEach (e :: es) X.env)).all (fun x => !x.1) && (backToKw cpos (keywordEach [] X.env)).all (fun x => x.1.isSome) && decide ((e :: es).length + ([] : List Keyword).length + (if ([] : List Keyword).isEmpty then 0 else 1) < 30)) = true := by rfl)
    (hline : (apos.endLine == cpos.line) = true := by rfl) (hs : starEach (e :: es) X.env = (false, eval e X.env) :: starEach es X.env := by rfl) (hplain : (backTo cpos (starEach es X.env)).any (·.1) = false := by rfl) :
    PD ρ X (.Call (.Attribute o "insert" apos) (e :: es) [] cpos) (dMeth mInsert dd da) := pd_meth PySem.F.slot_list_insert PySem.F.type_list_insert mt_insert ref_insert ho ha hbase hfew hline hs hplain
/-- pop(i) -/
def mPopAt : DM := fun r rs g k => ∃ j ds i n x, r = .o j ∧ rs = [.d (.int i)] ∧ g.ce[j]? = some (.lst ds) ∧ -(2 ^ 63) ≤ i ∧ i < 2 ^ 63 ∧ seqIndex? i ds.length = some n ∧ ds[n]? = some x ∧ k (.d x) { g with ce := g.ce.set j (.lst (ds.eraseIdx n)) }
theorem ref_popAt : RefM K rPopAt mPopAt := by
  rintro F g tm s H B al x vs r0 rs k Q S hx pr ⟨j, ds, i, n, y, rfl, rfl, hc, h1, h2, h3, h4, hk⟩ q
  obtain ⟨p, hp, rfl⟩ := hx
  obtain ⟨v, rfl, hv⟩ := pair1 pr
  cases dq_int hv
  obtain ⟨xs, e1, e2⟩ := S.ce j p _ hp hc
  obtain ⟨z, hz, hd⟩ := dqall_get e2 h4
  exact ⟨p, xs, i, n, z, rfl, rfl, e1, h1, h2, by rw [dqall_len e2]; exact h3, hz, q _ _ _ _ B al hk (S.put hp hc (by simp) ⟨_, upd_same, dqall_erase n e2⟩) hd⟩
theorem pd_popAt {apos cpos : Pos} {dd : DE} {da : DA} (ho : PD ρ X o dd) (ha : PDA ρ X (e :: es) da)
    (hbase : attributeBase o "pop" X.env (eval o X.env) = eval o X.env := by rfl)
    (hfew : ((backTo cpos (starEach (e :: es) X.env)).all (fun x => !x.1) && (backToKw cpos (keywordEach [] X.env)).all (fun x => x.1.isSome) && decide ((e :: es).length + ([] : List Keyword).length + (if ([] : List Keyword).isEmpty then 0 else 1) < 30)) = true := by rfl)
    (hline : (apos.endLine == cpos.line) = true := by rfl) (hs : starEach (e :: es) X.env = (false, eval e X.env) :: starEach es X.env := by rfl) (hplain : (backTo cpos (starEach es X.env)).any (·.1) = false := by rfl) :
    PD ρ X (.Call (.Attribute o "pop" apos) (e :: es) [] cpos) (dMeth mPopAt dd da) := pd_meth PySem.F.slot_list_pop PySem.F.type_list_pop mt_popAt ref_popAt ho ha hbase hfew hline hs hplain
/-- index of data -/
def mIndex : DM := fun r rs g k => ∃ ds r1 d n, datOf g r = some (.list ds) ∧ rs = [r1] ∧ datOf g r1 = some d ∧ SeqAt.shaped (.list ds) = true ∧ SeqAt.shaped d = true ∧ ds.findIdx? (fun z => PyData.eqv z d) = some n ∧ k (.d (.int (n : Nat))) g
theorem ref_index : RefM K (rIndexD K.fr) mIndex := by
  rintro F g tm s H B al x vs r0 rs k Q S hx pr ⟨ds, r1, d, n, e1, rfl, e2, s1, s2, h3, hk⟩ q
  obtain ⟨v, rfl, hv⟩ := pair1 pr
  have h1 := S.dat hx e1
  have h2 := S.dat hv e2
  obtain ⟨hn, hb, hm⟩ := List.findIdx?_eq_some_iff_getElem.mp h3
  have ha : ∃ a, x = .ref a := by cases h1 with | lst _ _ => exact ⟨_, rfl⟩
  obtain ⟨a, rfl⟩ := ha
  refine ⟨a, v, d, ds, n, ds[n], rfl, rfl, h1, h2, s1, s2, List.getElem?_eq_getElem hn, hb, fun m z' hm' hz => ?_, q _ H _ g B al hk S (Dq.int _)⟩
  have hml : m < ds.length := by omega
  rw [List.getElem?_eq_getElem hml] at hz
  cases hz
  have z := hm m hm'
  simpa using z
theorem pd_index {apos cpos : Pos} {dd : DE} {da : DA} (hu : X.A.units + 65 < cLine) (ho : PD ρ X o dd) (ha : PDA ρ X (e :: es) da)
    (hbase : attributeBase o "index" X.env (eval o X.env) = eval o X.env := by rfl)
    (hfew : ((backTo cpos (starEach (e :: es) X.env)).all (fun x => !x.1) && (backToKw cpos (keywordEach [] X.env)).all (fun x => x.1.isSome) && decide ((e :: es).length + ([] : List Keyword).length + (if ([] : List Keyword).isEmpty then 0 else 1) < 30)) = true := by rfl)
    (hline : (apos.endLine == cpos.line) = true := by rfl) (hs : starEach (e :: es) X.env = (false, eval e X.env) :: starEach es X.env := by rfl) (hplain : (backTo cpos (starEach es X.env)).any (·.1) = false := by rfl) :
    PD ρ X (.Call (.Attribute o "index" apos) (e :: es) [] cpos) (dMeth mIndex dd da) := pd_meth PySem.F.slot_list_index PySem.F.type_list_index (mt_indexD hu) ref_index ho ha hbase hfew hline hs hplain
theorem inV_ints (i : Int) : ∀ ns : List Int, inV (.int i) (ns.map V.int) = decide (i ∈ ns)
  | [] => by simp [inV]
  | n :: ns => by
    have ih := inV_ints i ns
    unfold inV at ih ⊢
    rw [List.map_cons, List.any_cons, ih]
    by_cases e : n = i
    · subst e; simp [eqV]
    · have e' : ¬ i = n := fun z => e z.symm
      have z : eqV (V.int n) (V.int i) = false := by
        show (n == i) = false
        simpa using e
      rw [z, Bool.false_or]
      simp [e']
theorem flat_ints (ns : List Int) : (ns.map V.int).all flatV = true := by
  rw [List.all_eq_true]
  intro x hx
  obtain ⟨n, _, rfl⟩ := List.mem_map.mp hx
  rfl
def oIn : D2 := fun r1 r2 g k => ∃ (i : Int) (t : Bool) (ns : List Int), r1 = .d (.int i) ∧ seqOf g r2 = some (t, ns.map .int) ∧ k (.d (.bool (decide (i ∈ ns)))) g
def oNotIn : D2 := fun r1 r2 g k => ∃ (i : Int) (t : Bool) (ns : List Int), r1 = .d (.int i) ∧ seqOf g r2 = some (t, ns.map .int) ∧ k (.d (.bool (!decide (i ∈ ns)))) g
theorem ref_in : RefOp K (rIn K.fr false) oIn := by
  rintro F g tm s H B al x y r1 r2 k Q S hx hy ⟨i, t, ns, rfl, h2, hk⟩ q
  cases dq_int hx
  obtain ⟨a, xs, rfl, h1, h3⟩ := S.seq hy h2
  cases dqall_ints h3
  refine ⟨a, _, rfl, h1.or, rfl, flat_ints ns, ?_⟩
  rw [if_neg Bool.false_ne_true, inV_ints]
  exact q _ H _ g B al hk S (Dq.bl _)
theorem ref_notIn : RefOp K (rIn K.fr true) oNotIn := by
  rintro F g tm s H B al x y r1 r2 k Q S hx hy ⟨i, t, ns, rfl, h2, hk⟩ q
  cases dq_int hx
  obtain ⟨a, xs, rfl, h1, h3⟩ := S.seq hy h2
  cases dqall_ints h3
  refine ⟨a, _, rfl, h1.or, rfl, flat_ints ns, ?_⟩
  rw [if_pos rfl, inV_ints]
  exact q _ H _ g B al hk S (Dq.bl _)
def cAll : DCl := fun rs g k => ∃ (r : R) (bs : List Bool), rs = [r] ∧ seqOf g r = some (false, bs.map .bool) ∧ k (.d (.bool (bs.all id))) g
def cAny : DCl := fun rs g k => ∃ (r : R) (bs : List Bool), rs = [r] ∧ seqOf g r = some (false, bs.map .bool) ∧ k (.d (.bool (bs.any id))) g
theorem ref_all : RefC K (rAll K.fr) cAll := by
  rintro F g tm s H B al vs rs k Q S pr ⟨r, bs, rfl, hs, hk⟩ q
  obtain ⟨v, rfl, hv⟩ := pair1 pr
  obtain ⟨a, xs, rfl, h1, h2⟩ := S.seq hv hs
  cases dqall_bools h2
  exact ⟨a, bs, rfl, h1, q _ H _ g B al hk S (Dq.bl _)⟩
theorem ref_any : RefC K (rAny K.fr) cAny := by
  rintro F g tm s H B al vs rs k Q S pr ⟨r, bs, rfl, hs, hk⟩ q
  obtain ⟨v, rfl, hv⟩ := pair1 pr
  obtain ⟨a, xs, rfl, h1, h2⟩ := S.seq hv hs
  cases dqall_bools h2
  exact ⟨a, bs, rfl, h1, q _ H _ g B al hk S (Dq.bl _)⟩
end
end DL
set_option Elab.async false
set_option linter.all false
set_option maxRecDepth 100000
set_option maxHeartbeats 4000000
set_option autoImplicit false
namespace DL
open PySem PySem.Spec PyProof.Rows L2
def wipeG (sl : List (Option R)) : List Nat → List (Option R)
  | [] => sl
  | v :: vs => (wipeG sl vs).set v none
theorem wipeG_length (sl : List (Option R)) : ∀ vs : List Nat, (wipeG sl vs).length = sl.length
  | [] => rfl
  | v :: vs => by unfold wipeG; rw [List.length_set, wipeG_length sl vs]
theorem wipeG_some {sl : List (Option R)} {i : Nat} {x : R} : ∀ {vs : List Nat}, (wipeG sl vs)[i]? = some (some x) → sl[i]? = some (some x) ∧ i ∉ vs
  | [], h => ⟨h, by simp⟩
  | v :: vs, h => by
    unfold wipeG at h
    by_cases hi : v = i
    · subst hi
      by_cases hv : v < (wipeG sl vs).length
      · rw [List.getElem?_set_self hv] at h; cases h
      · rw [List.getElem?_eq_none (by simpa using hv)] at h; cases h
    · rw [List.getElem?_set_ne hi] at h
      obtain ⟨h1, h2⟩ := wipeG_some h
      exact ⟨h1, by simp only [List.mem_cons, not_or]; exact ⟨fun e => hi e.symm, h2⟩⟩
def dLc (di : DI) (dg : DG) (dt : DT) (de : DE) (ws : List Nat) : DE := fun g k => di g fun ds g1 => ∃ I : Nat → List PyData → List Ct → Prop, I 0 [] g1.ce ∧ ∀ i acc ce, I i acc ce →
  (i = ds.length → k (.d (.list acc)) ⟨g1.sl, ce⟩) ∧ ∀ x, ds[i]? = some x → acc.length < 100000 ∧ dg (.d x) ⟨wipeG g1.sl ws, ce⟩ fun g2 => dt g2 fun b g3 =>
    if b = true then de g3 fun y g4 => ∃ d, y = .d d ∧ I (i + 1) (acc ++ [d]) g4.ce else I (i + 1) acc g3.ce
/-- the same, the list an own cell -/
def dLcO (di : DI) (dg : DG) (dt : DT) (de : DE) (ws : List Nat) : DE := fun g k => di g fun ds g1 => ∃ I : Nat → List PyData → List Ct → Prop, I 0 [] g1.ce ∧ ∀ i acc ce, I i acc ce →
  (i = ds.length → k (.o ce.length) ⟨g1.sl, ce ++ [.lst acc]⟩) ∧ ∀ x, ds[i]? = some x → acc.length < 100000 ∧ dg (.d x) ⟨wipeG g1.sl ws, ce⟩ fun g2 => dt g2 fun b g3 =>
    if b = true then de g3 fun y g4 => ∃ d, y = .d d ∧ I (i + 1) (acc ++ [d]) g4.ce else I (i + 1) acc g3.ce
def dYes : DT := fun g k => k true g
abbrev PDTs (ρ : Root) (X : Cx) (ifs : List Expr) (dt : DT) : Prop := PTs X ifs (liftT ⟨X.K, ρ⟩ dt)
section
variable {ρ : Root} {X : Cx} {tg iter elt e c : Expr} {ifs : List Expr} {pos : Pos} {K : KR}
theorem pts_imp {t t' : TT} (h : PTs X ifs t) (i : ∀ s H Q, t' s H Q → t s H Q) : PTs X ifs t' := ⟨fun pins s σ H Q I q => h.run pins s σ H Q I (i σ H Q q)⟩
theorem pdts_nil : PDTs ρ X [] dYes := pts_imp pts_nil fun s H Q ⟨F, g, tm, k, B, al, S, hk, q⟩ => q true H g B al hk S
theorem pdts_one {dt : DT} (h : PDT ρ X c dt) : PDTs ρ X [c] dt := pts_one h
/-- the frame in which the list at D grows -/
def fmLc (F : Fm) (B1 : Hp) (D : Addr) (xs : List V) : Fm := ⟨B1, upd F.O D (.lst xs), F.P⟩
theorem slotTemps {F : Fm} {g : G} {tm : List (V × R)} {s : L2.St} {H B : Hp} {al : List Addr} (S : Stt K F g tm s H B al) : ∃ ts : List (V × R), (∀ p ∈ ts, RvOk K B al p.1 p.2) ∧ ∀ (i : Nat) (r : R), g.sl[i]? = some (some r) → ∃ v, s[i]? = some (some v) ∧ (v, r) ∈ ts := by
  have gen : ∀ n, ∃ ts : List (V × R), (∀ p ∈ ts, RvOk K B al p.1 p.2) ∧ ∀ (i : Nat) (r : R), i < n → g.sl[i]? = some (some r) → ∃ v, s[i]? = some (some v) ∧ (v, r) ∈ ts := by
    intro n
    induction n with
    | zero => exact ⟨[], (fun p hp => nomatch hp), fun i r h => absurd h (Nat.not_lt_zero _)⟩
    | succ n ih =>
      obtain ⟨ts, h1, h2⟩ := ih
      by_cases hn : ∃ r, g.sl[n]? = some (some r)
      · obtain ⟨r, hr⟩ := hn
        obtain ⟨v, hv, hok⟩ := S.sl n r hr
        refine ⟨(v, r) :: ts, fun p hp => ?_, fun i r' hi hr' => ?_⟩
        · rcases List.mem_cons.mp hp with z | z
          · rw [z]; exact hok
          · exact h1 p z
        · by_cases e : i = n
          · subst e
            rw [hr] at hr'
            cases hr'
            exact ⟨v, hv, List.mem_cons_self⟩
          · obtain ⟨v', a, b⟩ := h2 i r' (by omega) hr'
            exact ⟨v', a, List.mem_cons_of_mem _ b⟩
      · refine ⟨ts, h1, fun i r' hi hr' => ?_⟩
        by_cases e : i = n
        · subst e; exact absurd ⟨r', hr'⟩ hn
        · exact h2 i r' (by omega) hr'
  obtain ⟨ts, h1, h2⟩ := gen g.sl.length
  refine ⟨ts, h1, fun i r hr => h2 i r ?_ hr⟩
  exact (List.getElem?_eq_some_iff.mp hr).1
theorem ref_lc {ws : List Nat} {di : DI} {dg : DG} {dt : DT} {de : DE} {own : Bool} : ∀ s H Q, lift K (if own then dLcO di dg dt de ws else dLc di dg dt de ws) s H Q → tLc (liftI K di) (liftG K ws dg) (liftT K dt) (lift K de) ws s H Q := by
  rintro s H Q ⟨F, g, tm, k, B, al, S, hk, q⟩
  have hk' : di g fun ds g1 => ∃ I : Nat → List PyData → List Ct → Prop, I 0 [] g1.ce ∧ ∀ i acc ce, I i acc ce →
    (i = ds.length → k (if own then .o ce.length else .d (.list acc)) (if own then ⟨g1.sl, ce ++ [.lst acc]⟩ else ⟨g1.sl, ce⟩)) ∧ ∀ x, ds[i]? = some x → acc.length < 100000 ∧ dg (.d x) ⟨wipeG g1.sl ws, ce⟩ fun g2 => dt g2 fun b g3 =>
      if b = true then de g3 fun y g4 => ∃ d, y = .d d ∧ I (i + 1) (acc ++ [d]) g4.ce else I (i + 1) acc g3.ce := by
    cases own with
    | true => exact hk
    | false => exact hk
  refine ⟨F, g, tm, _, B, al, S, hk', fun J H1 ds g1 B1 al1 ⟨I, i0, turn⟩ S1 wk => ?_⟩
  intro D hD
  have nD : D ∉ al1 := S1.new_out hD
  have bD : B1 D = none := S1.bh.free hD
  obtain ⟨ts, ts1, ts2⟩ := slotTemps S1
  have hrb : Same K.rt.B B1 := S1.rb.trans S1.fb
  have hro : ∀ (xs : List V) a o, K.rt.O a = some o → (fmLc F B1 D xs).O a = some o := fun xs a o e => by
    have e1 := S1.ro a o e
    have ne : a ≠ D := fun z => by
      have z2 := (S1.fo a o e1).1
      rw [z, hD] at z2
      cases z2
    show upd F.O D (.lst xs) a = some o
    rw [upd_ne ne]
    exact e1
  -- the state within
  have start : Stt K (fmLc F B1 D []) ⟨wipeG g1.sl ws, g1.ce⟩ (ts ++ tm) (wipe s ws) (upd H1 D (.lst [])) B1 al1 := by
    have eH : Same H1 (upd H1 D (.lst [])) := same_new hD
    refine { rb := hrb, ro := hro _, rp := S.rp, ot := (fun a us e => by
        by_cases ha : a = D
        · subst ha
          have e' : upd F.O a (.lst []) a = some (.tup us) := e
          rw [upd_same] at e'; cases e'
        · have e' : upd F.O D (.lst []) a = some (.tup us) := e
          rw [upd_ne ha] at e'; exact S.ot a us e'), fb := Same.refl _, bh := S1.bh.trans eH, fo := ?_, pre := S1.pre, len := S1.len, nd := S1.nd, lv := ?_, nb := S1.nb, ce := ?_, sl := ?_, tm := ?_, sln := ?_ }
    · intro a o e
      by_cases ha : a = D
      · subst ha
        have e' : upd F.O a (.lst []) a = some o := e
        rw [upd_same] at e' ⊢
        exact ⟨e', bD, nD⟩
      · have e' : upd F.O D (.lst []) a = some o := e
        rw [upd_ne ha] at e'
        obtain ⟨h1, h2, h3⟩ := S1.fo a o e'
        exact ⟨eH _ _ h1, h2, h3⟩
    · intro a ha
      obtain ⟨o, e⟩ := S1.lv a ha
      exact ⟨o, eH _ _ e⟩
    · intro j a ct h1 h2
      exact ct_mono0 (Same.refl _) (fun o e => eH _ _ e) (S1.ce j a ct h1 h2)
    · intro i r e
      obtain ⟨e1, e2⟩ := wipeG_some e
      obtain ⟨v, h1, h2⟩ := S1.sl i r e1
      exact ⟨v, by rw [wipe_out e2]; exact h1, h2⟩
    · intro p hp
      rcases List.mem_append.mp hp with z | z
      · exact ts1 p z
      · exact S1.tm p z
    · rw [wipeG_length, wipe_length]; exact S1.sln
  have dqT : ∀ {F' : Fm} {g' : G} {xs : List V} {acc : List PyData} {s' : L2.St} {H' B' : Hp} {al' : List Addr}, xs.length = acc.length → Stt K F' g' (xs.zip (acc.map R.d) ++ (ts ++ tm)) s' H' B' al' → DqAll B' xs acc := fun {F' g' xs acc s' H' B' al'} hl Z =>
    dqall_paired (K := K) (al := al') (paired_of (by rw [List.length_map]; exact hl) fun p hp => Z.tm p (List.mem_append_left _ hp))
  refine ⟨fun i m H => m = ds.length - i ∧ i ≤ ds.length ∧ ∃ acc xs ce B al, I i acc ce ∧ xs.length = acc.length ∧ Stt K (fmLc F B1 D xs) ⟨wipeG g1.sl ws, ce⟩ (xs.zip (acc.map R.d) ++ (ts ++ tm)) (wipe s ws) H B al, ⟨ds.length, rfl, Nat.zero_le _, [], [], g1.ce, B1, al1, i0, rfl, start⟩, ?_⟩
  rintro i m H2 ⟨rfl, hi, acc, xs, ce, B2, al2, hI, hx, S2⟩
  obtain ⟨t1, t2⟩ := turn i acc ce hI
  have dO : H2 D = some (.lst xs) ∧ B2 D = none ∧ D ∉ al2 := S2.fo D _ upd_same
  obtain ⟨w1, w2⟩ := wk _ _ _ (wipe s ws) H2 B2 al2 i S2 S2.fb
  by_cases hlt : i < ds.length
  · have hget : ds[i]? = some ds[i] := List.getElem?_eq_getElem hlt
    obtain ⟨go, yl⟩ := w1 _ hget
    obtain ⟨hz, hk2⟩ := t2 _ hget
    refine .inr ⟨go, fun H => ∃ acc xs ce B al, I (i + 1) acc ce ∧ xs.length = acc.length ∧ Stt K (fmLc F B1 D xs) ⟨wipeG g1.sl ws, ce⟩ (xs.zip (acc.map R.d) ++ (ts ++ tm)) (wipe s ws) H B al, fun H' ⟨acc', xs', ce', B', al', a1, a2, a3⟩ => ⟨ds.length - (i + 1), by omega, rfl, hlt, acc', xs', ce', B', al', a1, a2, a3⟩, fun x H3 hy => ?_⟩
    obtain ⟨B3, S3, e3, hd⟩ := yl x H3 hy
    -- the slots outside are as they were
    have back : ∀ {F' : Fm} {tm' : List (V × R)} {sl' : List (Option R)} {ce' : List Ct} {s' : L2.St} {H' B' : Hp} {al' : List Addr}, (∀ p ∈ ts, p ∈ tm') → Stt K F' ⟨sl', ce'⟩ tm' s' H' B' al' → Stt K F' ⟨wipeG g1.sl ws, ce'⟩ tm' (wipe s ws) H' B' al' := fun {F' tm' sl' ce' s' H' B' al'} hts Z =>
      { Z with
        sl := fun i r e => by
          obtain ⟨e1, e2⟩ := wipeG_some e
          obtain ⟨v, h1, h2⟩ := ts2 i r e1
          exact ⟨v, by rw [wipe_out e2]; exact h1, Z.tm _ (hts _ h2)⟩
        sln := by rw [wipeG_length, wipe_length]; exact S1.sln }
    refine ⟨_, _, _, .d _, _, B3, al2, S3, hd, hk2, fun s4 H4 g4 B4 al4 hk4 S4 wz => ⟨?_, ?_⟩⟩
    · rw [wz]
      refine List.ext_getElem? fun j => ?_
      by_cases hj : j ∈ ws
      · have gen : ∀ (us : List Nat) (q : L2.St), j ∈ us → (wipe q us)[j]? = if j < q.length then some none else none := by
          intro us
          induction us with
          | nil => intro q h; cases h
          | cons u us ih =>
            intro q h
            unfold wipe
            by_cases e : u = j
            · subst e
              by_cases hl : u < q.length
              · rw [List.getElem?_set_self (by rw [wipe_length]; exact hl), if_pos hl]
              · rw [List.getElem?_eq_none (by rw [List.length_set, wipe_length]; omega), if_neg hl]
            · rw [List.getElem?_set_ne e]
              refine ih q ?_
              rcases List.mem_cons.mp h with z | z
              · exact absurd z.symm e
              · exact z
        rw [gen ws _ hj, gen ws _ hj, wipe_length]
      · rw [wipe_out hj]
    · refine ⟨_, g4, _, _, B4, al4, S4, hk4, fun b H5 g5 B5 al5 hk5 S5 => ?_⟩
      cases b with
      | false =>
        have hk5 : I (i + 1) acc g5.ce := hk5
        exact iteF ⟨acc, xs, g5.ce, B5, al5, hk5, hx, back (fun p hp => List.mem_append_right _ (List.mem_append_left _ hp)) S5⟩
      | true =>
        refine iteT ⟨_, g5, _, _, B5, al5, S5, hk5, fun y H6 r6 g6 B6 al6 hk6 S6 => ?_⟩
        obtain ⟨d, er, hk6⟩ := hk6
        subst er
        have dO6 : H6 D = some (.lst xs) ∧ B6 D = none ∧ D ∉ al6 := S6.fo D _ upd_same
        have hy6 : Dq B6 y d := S6.top rfl
        refine ⟨xs, dO6.1, by rw [hx]; exact sz_lt hz, acc ++ [d], xs ++ [y], g6.ce, B6, al6, hk6, by rw [List.length_append, List.length_append, hx]; rfl, ?_⟩
        have Z := back (fun p hp => List.mem_cons_of_mem _ (List.mem_append_right _ (List.mem_append_left _ hp))) S6
        refine { rb := hrb, ro := hro _, rp := S.rp, ot := (fun a us e => by
        by_cases ha : a = D
        · subst ha
          have e' : upd F.O a (.lst (xs ++ [y])) a = some (.tup us) := e
          rw [upd_same] at e'; cases e'
        · have e' : upd F.O D (.lst (xs ++ [y])) a = some (.tup us) := e
          rw [upd_ne ha] at e'; exact S.ot a us e'), fb := Z.fb, bh := same_mut Z.bh dO6.2.1, fo := ?_, pre := Z.pre, len := Z.len, nd := Z.nd, lv := ?_, nb := Z.nb, ce := ?_, sl := Z.sl, tm := ?_, sln := Z.sln }
        · intro a o e
          by_cases ha : a = D
          · subst ha
            have e' : upd F.O a (.lst (xs ++ [y])) a = some o := e
            rw [upd_same] at e' ⊢
            exact ⟨e', dO6.2.1, dO6.2.2⟩
          · have e' : upd F.O D (.lst (xs ++ [y])) a = some o := e
            rw [upd_ne ha] at e' ⊢
            exact Z.fo a o (show upd F.O D (.lst xs) a = some o by rw [upd_ne ha]; exact e')
        · intro a ha
          have ne : a ≠ D := fun z => dO6.2.2 (z ▸ ha)
          rw [upd_ne ne]
          exact Z.lv a ha
        · intro j a ct h1 h2
          have ne : a ≠ D := fun z => dO6.2.2 (z ▸ List.mem_of_getElem? h1)
          exact ct_mono0 (Same.refl _) (fun o e => by rw [upd_ne ne]; exact e) (Z.ce j a ct h1 h2)
        · intro p hp
          rcases List.mem_append.mp hp with z | z
          · rw [List.map_append, List.zip_append (by rw [List.length_map]; exact hx)] at z
            rcases List.mem_append.mp z with z | z
            · exact Z.tm p (List.mem_cons_of_mem _ (List.mem_append_left _ z))
            · have e : p = (y, R.d d) := List.mem_singleton.mp z
              rw [e]
              exact hy6
          · exact Z.tm p (List.mem_cons_of_mem _ (List.mem_append_right _ z))
  · have e : i = ds.length := by omega
    refine .inl ⟨w2 e, ?_⟩
    have hd := dqT hx S2
    have hk3 := t1 e
    have tsl : ∀ {B' : Hp} {al' : List Addr}, (∀ p ∈ ts ++ tm, RvOk K B' al' p.1 p.2) → ∀ (i : Nat) (r : R), g1.sl[i]? = some (some r) → ∃ v, s[i]? = some (some v) ∧ RvOk K B' al' v r := fun {B' al'} h i r er => by
      obtain ⟨v, h1, h2⟩ := ts2 i r er
      exact ⟨v, h1, h _ (List.mem_append_left _ h2)⟩
    have tmo : ∀ p ∈ ts ++ tm, RvOk K B2 al2 p.1 p.2 := fun p hp => S2.tm p (List.mem_append_right _ hp)
    have foo : ∀ a o, F.O a = some o → H2 a = some o ∧ B2 a = none ∧ a ∉ al2 ∧ a ≠ D := fun a o ha => by
      have ne : a ≠ D := fun z => by
        subst z
        have := (S1.fo a o ha).1
        rw [hD] at this
        cases this
      obtain ⟨h1, h2, h3⟩ := S2.fo a o (show upd F.O D (.lst xs) a = some o by rw [upd_ne ne]; exact ha)
      exact ⟨h1, h2, h3, ne⟩
    have eB : Same B2 (upd B2 D (.lst xs)) := same_new dO.2.1
    cases own with
    | false =>
      refine q _ _ _ _ (upd B2 D (.lst xs)) al2 hk3 ?_
      refine { rb := S.rb, ro := S.ro, rp := S.rp, ot := S.ot, fb := (S1.fb.trans S2.fb).trans eB, bh := ?_, fo := ?_, pre := S2.pre, len := S2.len, nd := S2.nd, lv := S2.lv, nb := ?_, ce := ?_, sl := ?_, tm := ?_, sln := S1.sln }
      · intro a o ea
        by_cases ha : a = D
        · subst ha; rw [upd_same] at ea; cases ea; exact dO.1
        · rw [upd_ne ha] at ea; exact S2.bh _ _ ea
      · intro a o ha
        obtain ⟨h1, h2, h3, h4⟩ := foo a o ha
        exact ⟨h1, by rw [upd_ne h4]; exact h2, h3⟩
      · intro j a ct h1 h2 h3
        have ne : a ≠ D := fun z => dO.2.2 (z ▸ List.mem_of_getElem? h1)
        rw [upd_ne ne]
        exact S2.nb j a ct h1 h2 h3
      · intro j a ct h1 h2
        exact ct_mono0 eB (fun o e => e) (S2.ce j a ct h1 h2)
      · exact tsl fun p hp => rv_mono0 eB (tmo p hp)
      · intro p hp
        rcases List.mem_cons.mp hp with z | z
        · rw [z]
          exact Dq.lst upd_same (dqall_mono eB hd)
        · exact rv_mono0 eB (tmo p (List.mem_append_right _ z))
    | true =>
      have S3 : Stt K F ⟨g1.sl, ce⟩ tm s H2 B2 al2 := { rb := S1.rb, ro := S1.ro, rp := S1.rp, ot := S1.ot, fb := S1.fb.trans S2.fb, bh := S2.bh, fo := (fun a o ha => let ⟨h1, h2, h3, _⟩ := foo a o ha; ⟨h1, h2, h3⟩), pre := S2.pre, len := S2.len, nd := S2.nd, lv := S2.lv, nb := S2.nb, ce := S2.ce, sl := tsl tmo, tm := (fun p hp => tmo p (List.mem_append_right _ hp)), sln := S1.sln }
      obtain ⟨t, ht⟩ := S3.pre
      refine q _ _ _ _ B2 (al2 ++ [D]) hk3 ?_
      refine { rb := S.rb, ro := S.ro, rp := S.rp, ot := S.ot, fb := S3.fb, bh := S3.bh, fo := ?_, pre := ⟨t ++ [D], by rw [ht, List.append_assoc]⟩, len := by show (al2 ++ [D]).length = (ce ++ [Ct.lst acc]).length; rw [List.length_append, List.length_append, S3.len]; rfl, nd := ?_, lv := ?_, nb := ?_, ce := ?_, sl := ?_, tm := ?_, sln := S1.sln }
      · intro a o ha
        obtain ⟨h1, h2, h3, h4⟩ := foo a o ha
        refine ⟨h1, h2, fun z => ?_⟩
        rcases List.mem_append.mp z with z | z
        · exact h3 z
        · exact h4 (List.mem_singleton.mp z)
      · refine List.nodup_append.mpr ⟨S3.nd, by simp, fun a ha b hb => ?_⟩
        rw [List.mem_singleton.mp hb]
        exact fun z => dO.2.2 (z ▸ ha)
      · intro a ha
        rcases List.mem_append.mp ha with z | z
        · exact S3.lv a z
        · rw [List.mem_singleton.mp z]; exact ⟨_, dO.1⟩
      · intro j a ct h1 h2 h3
        have h2 : (ce ++ [Ct.lst acc])[j]? = some ct := h2
        have hln : al2.length = ce.length := S3.len
        by_cases hj : j < al2.length
        · rw [List.getElem?_append_left hj] at h1
          rw [List.getElem?_append_left (by omega)] at h2
          exact S3.nb j a ct h1 h2 h3
        · rw [List.getElem?_append_right (by omega)] at h1
          rw [List.mem_singleton.mp (List.mem_of_getElem? h1)]
          exact dO.2.1
      · intro j a ct h1 h2
        have h2 : (ce ++ [Ct.lst acc])[j]? = some ct := h2
        have hln : al2.length = ce.length := S3.len
        by_cases hj : j < al2.length
        · rw [List.getElem?_append_left hj] at h1
          rw [List.getElem?_append_left (by omega)] at h2
          exact ct_mono (Same.refl _) (fun o e => e) (S3.ce j a ct h1 h2)
        · rw [List.getElem?_append_right (by omega)] at h1
          rw [List.getElem?_append_right (by omega)] at h2
          have e1 : a = D := List.mem_singleton.mp (List.mem_of_getElem? h1)
          have e2 : ct = .lst acc := List.mem_singleton.mp (List.mem_of_getElem? h2)
          subst e1 e2
          exact ⟨xs, dO.1, hd⟩
      · intro i r er
        obtain ⟨v, h1, h2⟩ := S3.sl i r er
        exact ⟨v, h1, rv_mono (Same.refl _) h2⟩
      · intro p hp
        rcases List.mem_cons.mp hp with z | z
        · rw [z]
          refine ⟨D, ?_, rfl⟩
          show (al2 ++ [D])[ce.length]? = some D
          have hln : al2.length = ce.length := S3.len
          rw [← hln, List.getElem?_append_right (Nat.le_refl _), Nat.sub_self]
          rfl
        · exact rv_mono (Same.refl _) (S3.tm p z)
end
section
variable {ρ : Root} {X : Cx} {tg iter elt : Expr} {ifs : List Expr} {pos : Pos} {scope : Scope} {own : List (Str × Nat)} {di : DI} {dg : DG} {dt : DT} {de : DE}
theorem pd_lc (hc : X.calm = true) (hN : X.N.Nodup) (hi : PDI ρ X tg iter di) (ok : BlkOk X.N X.env.scope scope own)
    (hg : ∀ (s : Shared) (H : Hp) (C : Addr) (cl : List (Str × Addr)) (fp : List Addr), PDG ρ (X.blk s H scope (compEnvC scope cl C X.env) fp) (own.map (·.2)) tg dg)
    (ht : ∀ (s : Shared) (H : Hp) (C : Addr) (cl : List (Str × Addr)) (fp : List Addr), PDTs ρ (X.blk s H scope (compEnvC scope cl C X.env) fp) ifs dt)
    (he : ∀ (s : Shared) (H : Hp) (C : Addr) (cl : List (Str × Addr)) (fp : List Addr), PD ρ (X.blk s H scope (compEnvC scope cl C X.env) fp) elt de) (hs : ∀ x, foldedSetIterable iter X.env x = pure x := by intro _; rfl) :
    PD ρ X (.ListComp elt [⟨tg, iter, ifs, 0⟩] scope pos) (dLc di dg dt de (own.map (·.2))) := pe_imp (pe_lc hc hN hi ok hg ht he hs) fun s H Q h => ref_lc (own := false) s H Q h
theorem pd_lcO (hc : X.calm = true) (hN : X.N.Nodup) (hi : PDI ρ X tg iter di) (ok : BlkOk X.N X.env.scope scope own)
    (hg : ∀ (s : Shared) (H : Hp) (C : Addr) (cl : List (Str × Addr)) (fp : List Addr), PDG ρ (X.blk s H scope (compEnvC scope cl C X.env) fp) (own.map (·.2)) tg dg)
    (ht : ∀ (s : Shared) (H : Hp) (C : Addr) (cl : List (Str × Addr)) (fp : List Addr), PDTs ρ (X.blk s H scope (compEnvC scope cl C X.env) fp) ifs dt)
    (he : ∀ (s : Shared) (H : Hp) (C : Addr) (cl : List (Str × Addr)) (fp : List Addr), PD ρ (X.blk s H scope (compEnvC scope cl C X.env) fp) elt de) (hs : ∀ x, foldedSetIterable iter X.env x = pure x := by intro _; rfl) :
    PD ρ X (.ListComp elt [⟨tg, iter, ifs, 0⟩] scope pos) (dLcO di dg dt de (own.map (·.2))) := pe_imp (pe_lc hc hN hi ok hg ht he hs) fun s H Q h => ref_lc (own := true) s H Q h
end
end DL
set_option Elab.async false
set_option linter.all false
set_option maxRecDepth 100000
set_option maxHeartbeats 4000000
set_option autoImplicit false
namespace DL
open PySem PySem.Spec PyProof.Rows L2
structure Calm (k : Nat) (A : Around) : Prop where
  room : Room k A
  gds : A.guards = some []
theorem Calm.mono {j k : Nat} {A : Around} (c : Calm k A) (h : j ≤ k) : Calm j A := ⟨c.room.mono h, c.gds⟩
theorem Calm.units {k : Nat} {A : Around} (c : Calm k A) : A.units + 64 < cLine := c.room.units
theorem Calm.deeper {k : Nat} {A : Around} (c : Calm (k + 1) A) (env : Env) : Calm k (A.deeper env) := ⟨c.room.deeper env, c.gds⟩
structure FnG (P : Program) (w : World) (K : PySem.W.Frag) (mg : Str → Option Value) (base : Heap) (CX : CXT) (k : Nat) (f : Addr) (fd : FuncData) (ps : List Str) (sp : Sp) : Prop where
  count : ∀ vs H Q E, sp vs H Q E → vs.length = ps.length
  goes : ∀ (A : Around) (fr : List Env) (s : Shared) (H : Hp) (as : Args) (us : List Value) (vs : List V) (Q : VK) (E : XK), Calm k A → Env0 P w K mg base A fr s H → BindsTo s fd as (ps.zip us) → Vals vs us → sp vs H Q E →
    codeAny (model P w) A (.call (.ref f) as) (CR CX fr P w H s Q E) s
theorem FnG.mono {P : Program} {w : World} {K : PySem.W.Frag} {mg : Str → Option Value} {base : Heap} {CX : CXT} {j k : Nat} {f : Addr} {fd : FuncData} {ps : List Str} {sp : Sp} (G : FnG P w K mg base CX j f fd ps sp) (h : j ≤ k) : FnG P w K mg base CX k f fd ps sp :=
  ⟨G.count, fun A fr s H as us vs Q E c => G.goes A fr s H as us vs Q E (c.mono h)⟩
/-- by its body -/
theorem Fun.goes {CX : CXT} {P : Program} {w : World} {K : PySem.W.Frag} {mg : Str → Option Value} {base : Heap} {k : Nat} {x qual : Str} {st : Stmt} {f : Addr} {fd : FuncData} {N ps : List Str} {sp : Sp} (F : Fun K x qual st f fd) (S : FnScope N ps (defScope st))
    (count : ∀ vs H Q E, sp vs H Q E → vs.length = ps.length)
    (inside : ∀ (cdv : Value) (A : Around) (fr : List Env) (s : Shared) (H : Hp) (vs : List V) (Q : VK) (E : XK), Calm k (A.deeper (envOfC qual (defScope st) s.heap.objs.size f cdv)) → sp vs H Q E →
      ∃ t, PSs (cxOf CX P w K mg base N qual (defScope st) f cdv A fr s H E) (defBody st) t ∧ t { nx := fun _ H' => Q .non H', rt := Q } (start N vs) H) : FnG P w K mg base CX (k + 1) f fd ps sp := by
  obtain ⟨oc, od, kV, doc, pm, an, cdv, ct, osl, rfl, here, code⟩ := F.ex
  refine ⟨count, fun A fr s H as us vs Q E c env0 bnd rel want => ?_⟩
  have same : ∀ b o, base.get? b = some o → s.heap.get? b = some o := fun b o q => (env0.bs b o q).1
  have inK : K.In s.heap := env0.mod.kin.keeps same
  have noLim : s.heap.NoLimit := env0.mod.nolimit.keeps same
  refine codeAny_call_function c.room.depth (inK _ _ here) rfl S.co S.gen rfl (PySem.W.codeRec_of inK code) (bnd _ _ _ _ ?_)
  refine wpAny_newFunctionEnv_cells S.kind (fun ⟨n, v⟩ hy => (S.par n (List.of_mem_zip hy).1).elim .inl fun q => .inr ⟨q, PySem.W.cellsFrom_some _ _ _ (.inl q)⟩) fun env he s1 made => ?_
  subst he
  refine ⟨noLim.keeps made.toInCall.keep, codeAny_func ?_⟩
  obtain ⟨t, walk, ends⟩ := inside cdv A fr s H vs Q E (c.deeper _) want
  have I0 := inv_start (CX := CX) (E := E) S c.room.hd env0 (count _ _ _ _ want) rel made
  refine wpAny_mono (walk.run [] s1 (start N vs) H _ I0 ends) (fun fl s' q => ?_) fun e s' q => q
  cases fl with
  | ret u =>
    obtain ⟨v, σ', H', J, rv, hq⟩ := q
    exact ⟨v, H', J.os, J.bare, J.base, J.hok, rv, hq⟩
  | next =>
    obtain ⟨σ', H', J, hq⟩ := q
    exact ⟨.non, H', J.os, J.bare, J.base, J.hok, rfl, hq⟩
  | brk => exact q.elim fun _ ⟨_, _, z⟩ => (show False from z).elim
  | cont => exact q.elim fun _ ⟨_, _, z⟩ => (show False from z).elim
section
variable {X : Cx} {CX : CXT} {k : Nat} {f : Addr} {fd : FuncData} {ps : List Str} {sp : Sp} {E : XK} {x : Str} {p pos : Pos} {e : Expr} {es : List Expr} {t : TA}
theorem runs_G {pins : List (Addr × Obj)} {σ : L2.St} {H : Hp} {s : Shared} {Q : VK} {as : Args} {us : List Value} {vs : List V} (G : FnG X.prog X.w X.K X.mg X.base CX k f fd ps sp) (c : Calm k X.A) (I : Inv X pins σ H s) (hx : ∀ v s', CX X.stack H s E v s' → X.xe v s') (bnd : BindsTo s fd as (ps.zip us)) (r : Vals vs us) (h : sp vs H Q E) :
    wpAny (model X.prog X.w) X.A (call (.ref f) as.pos as.kw) (EP X pins σ Q) X.xe s := by
  refine wpAny_call (codeAny_mono (G.goes X.A X.stack s H as us vs Q E c I.env0 bnd r h) fun res s' q => ?_)
  cases res with
  | error v => exact hx v s' q
  | ok fl =>
    cases fl with
    | ret u => exact I.after q
    | next => exact q.elim
    | brk => exact q.elim
    | cont => exact q.elim
end
end DL
set_option Elab.async false
set_option linter.all false
set_option maxRecDepth 100000
set_option maxHeartbeats 4000000
set_option autoImplicit false
namespace DL
open PySem PySem.Spec PyProof.Rows L2
inductive Res where
  | dat (x : PyData)
  | newC (ct : Ct)
  | shC (ct : Ct)
def XnOk (K : KR) (B : Hp) (n : Xn) (cls : Value) (d : Option Addr) : Prop := cls = .ref (K.rt.cl n.cls) ∧ XnF B n d
abbrev kAt (fr : PySem.W.Frag) (cl : Str → Addr) (B O : Hp) (P : List Addr) : KR := ⟨fr, ⟨B, O, P, cl⟩⟩
def ResOk (B : Hp) (al : List Addr) (ce : List Ct) (n : Nat) (v : V) : Res → Prop
  | .dat x => Dq B v x
  | .shC ct => ∃ a, v = .ref a ∧ ct ≠ .dead ∧ ∃ K al, CtOk K B al B a ct
  | .newC ct => ∃ j p, n ≤ j ∧ al[j]? = some p ∧ v = .ref p ∧ ce[j]? = some ct ∧ ct ≠ .dead
theorem ct_any {K K' : KR} {B H : Hp} {al al' : List Addr} {a : Addr} {ct : Ct} (h : CtOk K B al H a ct) : CtOk K' B al' H a ct := by
  cases ct <;> exact h
def noO : R → Bool
  | .o _ => false
  | _ => true
def liftX (K : KR) (dx : Xn → G → Prop) : WX := fun cls d σ H => ∃ F g tm B al n, Stt K F g tm σ H B al ∧ dx n g ∧ XnOk K B n cls d
def g0 (n : Nat) (rs : List R) (ce : List Ct) : G := ⟨rs.map some ++ List.replicate (n - rs.length) none, ce⟩
section
variable {K : KR} {F : Fm} {g : G} {tm : List (V × R)} {s : L2.St} {H B : Hp} {al : List Addr}
theorem Stt.bare (S : Stt K F g tm s H B al) : Stt K F ⟨[], g.ce⟩ [] [] H B al :=
  { S with sl := (fun i r e => by simp at e), tm := (fun p hp => nomatch hp), sln := rfl }
/-- a list that nobody holds becomes shared, becomes an own cell -/
theorem Stt.adopt (S : Stt K F g tm s H B al) {p : Addr} {xs : List V} (hp : H p = some (.lst xs)) (hb : B p = none) (ha : p ∉ al) (ho : F.O p = none) : Stt K F g tm s H (upd B p (.lst xs)) al := by
  have eB : Same B (upd B p (.lst xs)) := same_new hb
  refine { rb := S.rb, ro := S.ro, rp := S.rp, ot := S.ot, fb := S.fb.trans eB, bh := ?_, fo := ?_, pre := S.pre, len := S.len, nd := S.nd, lv := S.lv, nb := ?_, ce := ?_, sl := ?_, tm := ?_, sln := S.sln }
  · intro a o e
    by_cases h : a = p
    · subst h; rw [upd_same] at e; cases e; exact hp
    · rw [upd_ne h] at e; exact S.bh _ _ e
  · intro a o e
    obtain ⟨h1, h2, h3⟩ := S.fo a o e
    have ne : a ≠ p := fun z => by subst z; rw [ho] at e; cases e
    exact ⟨h1, by rw [upd_ne ne]; exact h2, h3⟩
  · intro j a ct h1 h2 h3
    have ne : a ≠ p := fun z => ha (z ▸ List.mem_of_getElem? h1)
    rw [upd_ne ne]
    exact S.nb j a ct h1 h2 h3
  · intro j a ct h1 h2
    exact ct_mono0 eB (fun o e => e) (S.ce j a ct h1 h2)
  · intro i r e
    obtain ⟨v, h1, h2⟩ := S.sl i r e
    exact ⟨v, h1, rv_mono0 eB h2⟩
  · intro q hq
    exact rv_mono0 eB (S.tm q hq)
theorem Stt.adoptO (S : Stt K F g tm s H B al) {p : Addr} {ct : Ct} (hp : ∃ o, H p = some o) (hb : B p = none) (ha : p ∉ al) (ho : F.O p = none) (hc : CtOk K B al H p ct) : Stt K F { g with ce := g.ce ++ [ct] } tm s H B (al ++ [p]) := by
  obtain ⟨t, ht⟩ := S.pre
  refine { rb := S.rb, ro := S.ro, rp := S.rp, ot := S.ot, fb := S.fb, bh := S.bh, fo := ?_, pre := ⟨t ++ [p], by rw [ht, List.append_assoc]⟩, len := by rw [List.length_append, List.length_append, S.len]; rfl, nd := ?_, lv := ?_, nb := ?_, ce := ?_, sl := ?_, tm := ?_, sln := S.sln }
  · intro a o e
    obtain ⟨h1, h2, h3⟩ := S.fo a o e
    refine ⟨h1, h2, fun z => ?_⟩
    rcases List.mem_append.mp z with z | z
    · exact h3 z
    · rw [List.mem_singleton.mp z, ho] at e; cases e
  · refine List.nodup_append.mpr ⟨S.nd, by simp, fun a ha' b hb' => ?_⟩
    rw [List.mem_singleton.mp hb']
    exact fun z => ha (z ▸ ha')
  · intro a ha'
    rcases List.mem_append.mp ha' with z | z
    · exact S.lv a z
    · rw [List.mem_singleton.mp z]; exact hp
  · intro j a c h1 h2 h3
    by_cases hj : j < al.length
    · rw [List.getElem?_append_left hj] at h1
      rw [List.getElem?_append_left (by rw [← S.len]; exact hj)] at h2
      exact S.nb j a c h1 h2 h3
    · rw [List.getElem?_append_right (by omega)] at h1
      rw [List.mem_singleton.mp (List.mem_of_getElem? h1)]
      exact hb
  · intro j a c h1 h2
    by_cases hj : j < al.length
    · rw [List.getElem?_append_left hj] at h1
      rw [List.getElem?_append_left (by rw [← S.len]; exact hj)] at h2
      exact ct_mono (Same.refl _) (fun o e => e) (S.ce j a c h1 h2)
    · rw [List.getElem?_append_right (by omega)] at h1
      rw [List.getElem?_append_right (by rw [← S.len]; omega)] at h2
      have e1 : a = p := List.mem_singleton.mp (List.mem_of_getElem? h1)
      have e2 : c = ct := List.mem_singleton.mp (List.mem_of_getElem? h2)
      subst e1 e2
      exact ct_mono (Same.refl _) (fun o e => e) hc
  · intro i r e
    obtain ⟨v, h1, h2⟩ := S.sl i r e
    exact ⟨v, h1, rv_mono (Same.refl _) h2⟩
  · intro q hq
    exact rv_mono (Same.refl _) (S.tm q hq)
/-- seen from the root -/
theorem Stt.root (S : Stt K F g tm s H B al) : Stt K ⟨K.rt.B, K.rt.O, K.rt.P⟩ ⟨[], g.ce⟩ [] [] H B al := by
  have S' := S.bare
  exact { S' with rb := Same.refl _, ro := (fun _ _ e => e), rp := ⟨[], (List.append_nil _).symm⟩, ot := (fun a us e => S.ot a us (S.ro a _ e)), fb := S.rb.trans S.fb, fo := (fun a o e => S.fo a o (S.ro a o e)), pre := (by obtain ⟨t, ht⟩ := S.pre; obtain ⟨u, hu⟩ := S.rp; exact ⟨u ++ t, by rw [ht, hu, List.append_assoc]⟩) }
end
theorem paired_get {K : KR} {B : Hp} {al : List Addr} : ∀ {vs : List V} {rs : List R} {i : Nat} {r : R}, Paired (RvOk K B al) vs rs → rs[i]? = some r → ∃ v, vs[i]? = some v ∧ RvOk K B al v r
  | _, _, _, _, .nil, e => by simp at e
  | _, _, 0, _, .cons a _, e => by
    simp at e
    subst e
    exact ⟨_, rfl, a⟩
  | _, _, i + 1, r, .cons _ t, e => by
    obtain ⟨v, h1, h2⟩ := paired_get (i := i) (r := r) t (by simpa using e)
    exact ⟨v, by simpa using h1, h2⟩
theorem stt_start {K : KR} {F : Fm} {H B : Hp} {al : List Addr} {ce : List Ct} {N : List Str} {vs : List V} {rs : List R} (S : Stt K F ⟨[], ce⟩ [] [] H B al) (h : Paired (RvOk K B al) vs rs) : Stt K F (g0 N.length rs ce) [] (start N vs) H B al := by
  refine { S with sl := ?_, tm := (fun p hp => nomatch hp), sln := ?_ }
  · intro i r e
    unfold g0 at e
    have hi : i < rs.length := by
      by_cases hi : i < rs.length
      · exact hi
      · have e' : (rs.map some ++ List.replicate (N.length - rs.length) none)[i]? = some (some r) := e
        rw [List.getElem?_append_right (by simpa using hi), List.getElem?_replicate] at e'
        split at e' <;> cases e'
    have e' : (rs.map some ++ List.replicate (N.length - rs.length) none)[i]? = some (some r) := e
    rw [List.getElem?_append_left (by simpa using hi), List.getElem?_map] at e'
    cases er : rs[i]? with
    | none => rw [er] at e'; cases e'
    | some r' =>
      rw [er] at e'
      cases e'
      obtain ⟨v, h1, h2⟩ := paired_get h er
      refine ⟨v, ?_, h2⟩
      unfold L2.start
      rw [List.getElem?_append_left (by rw [List.length_map]; exact (List.getElem?_eq_some_iff.mp h1).1), List.getElem?_map, h1]
      rfl
  · show (rs.map some ++ List.replicate (N.length - rs.length) none).length = (start N vs).length
    unfold L2.start
    rw [List.length_append, List.length_append, List.length_map, List.length_map, List.length_replicate, List.length_replicate, h.length]
section
variable {K : KR} {F : Fm} {g : G} {tm : List (V × R)} {s : L2.St} {H B : Hp} {al : List Addr}
/-- what the callee must leave alone -/
def ownN (F : Fm) (H B : Hp) (al : List Addr) : Hp := fun a => if (al.contains a && (B a).isNone) = true then H a else F.O a
theorem ownN_in {a : Addr} (ha : a ∈ al) (hb : B a = none) : ownN F H B al a = H a := by
  unfold ownN
  rw [if_pos (by rw [hb, Bool.and_eq_true]; exact ⟨List.contains_iff_mem.mpr ha, rfl⟩)]
theorem ownN_out {a : Addr} (ha : a ∉ al) : ownN F H B al a = F.O a := by
  unfold ownN
  rw [if_neg (fun z => ha (List.contains_iff_mem.mp (Bool.and_eq_true_iff.mp z).1))]
theorem ownN_old {a : Addr} (ha : B a ≠ none) : ownN F H B al a = F.O a := by
  unfold ownN
  rw [if_neg (fun z => ha (Option.isNone_iff_eq_none.mp (Bool.and_eq_true_iff.mp z).2))]
theorem Stt.box (S : Stt K F g tm s H B al) {a : Addr} (ha : a ∈ al) : ∀ us, H a ≠ some (.tup us) := by
  obtain ⟨j, hj, e⟩ := List.getElem_of_mem ha
  have e1 : al[j]? = some a := by rw [List.getElem?_eq_getElem hj, e]
  have hj' : j < g.ce.length := by rw [← S.len]; exact hj
  have e2 : g.ce[j]? = some (g.ce[j]'hj') := List.getElem?_eq_getElem hj'
  obtain ⟨o, h1, h2⟩ := ct_box (S.ce j a _ e1 e2)
  intro us h
  rw [h1] at h
  cases h
  exact h2 us rfl
theorem ownN_tup (S : Stt K F g tm s H B al) : ∀ a us, ownN F H B al a ≠ some (.tup us) := fun a us e => by
  by_cases ha : a ∈ al
  · cases hb : B a with
    | none => rw [ownN_in ha hb] at e; exact S.box ha us e
    | some u => rw [ownN_old (by rw [hb]; simp)] at e; exact S.ot a us e
  · rw [ownN_out ha] at e; exact S.ot a us e
theorem call_in (S : Stt K F g tm s H B al) : Stt (kAt K.fr K.rt.cl B (ownN F H B al) []) ⟨B, ownN F H B al, []⟩ ⟨[], []⟩ [] [] H B [] := by
  refine { rb := Same.refl _, ro := (fun _ _ e => e), rp := ⟨[], (List.append_nil _).symm⟩, ot := ownN_tup S, fb := Same.refl _, bh := S.bh, fo := ?_, pre := ⟨[], rfl⟩, len := rfl, nd := List.nodup_nil, lv := (fun a ha => nomatch ha), nb := (fun j a ct h => by simp at h), ce := (fun j a ct h => by simp at h), sl := (fun i r h => by simp at h), tm := (fun p hp => nomatch hp), sln := rfl }
  intro a o e
  by_cases ha : a ∈ al
  · cases hb : B a with
    | none =>
      have e' : ownN F H B al a = some o := e
      rw [ownN_in ha hb] at e'
      exact ⟨e', rfl, by simp⟩
    | some u =>
      have e' : ownN F H B al a = some o := e
      rw [ownN_old (by rw [hb]; simp)] at e'
      exact absurd ha (S.fo a o e').2.2
  · have e' : ownN F H B al a = some o := e
    rw [ownN_out ha] at e'
    obtain ⟨h1, h2, _⟩ := S.fo a o e'
    exact ⟨h1, h2, by simp⟩
/-- a cell that nobody holds becomes shared -/
theorem Stt.adoptH (S : Stt K F g tm s H B al) {p : Addr} {o : HO} (hp : H p = some o) (hb : B p = none) (ha : p ∉ al) (ho : F.O p = none) : Stt K F g tm s H (upd B p o) al := by
  have eB : Same B (upd B p o) := same_new hb
  refine { rb := S.rb, ro := S.ro, rp := S.rp, ot := S.ot, fb := S.fb.trans eB, bh := ?_, fo := ?_, pre := S.pre, len := S.len, nd := S.nd, lv := S.lv, nb := ?_, ce := ?_, sl := ?_, tm := ?_, sln := S.sln }
  · intro a o e
    by_cases h : a = p
    · subst h; rw [upd_same] at e; cases e; exact hp
    · rw [upd_ne h] at e; exact S.bh _ _ e
  · intro a o e
    obtain ⟨h1, h2, h3⟩ := S.fo a o e
    have ne : a ≠ p := fun z => by subst z; rw [ho] at e; cases e
    exact ⟨h1, by rw [upd_ne ne]; exact h2, h3⟩
  · intro j a ct h1 h2 h3
    have ne : a ≠ p := fun z => ha (z ▸ List.mem_of_getElem? h1)
    rw [upd_ne ne]
    exact S.nb j a ct h1 h2 h3
  · intro j a ct h1 h2
    exact ct_mono0 eB (fun o e => e) (S.ce j a ct h1 h2)
  · intro i r e
    obtain ⟨v, h1, h2⟩ := S.sl i r e
    exact ⟨v, h1, rv_mono0 eB h2⟩
  · intro q hq
    exact rv_mono0 eB (S.tm q hq)
/-- what a new cell of a callee is to its caller -/
def shR : Ct → R
  | .lst ds => .d (.list ds)
  | ct => .m ct
theorem Stt.take (S : Stt K F g tm s H B al) {p : Addr} {ct : Ct} (hl : ∃ o, H p = some o) (hb : B p = none) (ha : p ∉ al) (ho : F.O p = none) (hc : CtOk K B al H p ct) (hd : ct ≠ .dead) : ∃ B', Stt K F g ((.ref p, shR ct) :: tm) s H B' al := by
  cases ct with
  | dead => exact absurd rfl hd
  | lst ds =>
    obtain ⟨xs, h1, h2⟩ := hc
    exact ⟨_, (S.adoptH h1 hb ha ho).push (Dq.lst upd_same (dqall_mono (same_new hb) h2))⟩
  | dK kvs =>
    obtain ⟨xs, h1, h2⟩ := hc
    exact ⟨_, (S.adoptH h1 hb ha ho).push ⟨p, rfl, hd, xs, upd_same, paired_imp (fun _ _ z => ⟨z.1, dq_mono (same_new hb) z.2⟩) h2⟩⟩
  | dT kvs =>
    obtain ⟨xs, h1, h2⟩ := hc
    exact ⟨_, (S.adoptH h1 hb ha ho).push ⟨p, rfl, hd, xs, upd_same, paired_imp (fun _ _ z => ⟨z.1, dq_mono (same_new hb) z.2⟩) h2⟩⟩
  | dN kvs =>
    obtain ⟨xs, h1, h2⟩ := hc
    exact ⟨_, (S.adoptH h1 hb ha ho).push ⟨p, rfl, hd, xs, upd_same, paired_imp (fun _ _ z => ⟨z.1, dq_mono (same_new hb) z.2.1, dq_mono (same_new hb) z.2.2⟩) h2⟩⟩
  | dL kvs =>
    obtain ⟨o, xs, h1, h2⟩ := hc
    exact ⟨_, (S.adoptH h1 hb ha ho).push ⟨p, rfl, hd, o, xs, upd_same, paired_imp (fun _ _ z => ⟨z.1, dq_mono (same_new hb) z.2.1, dq_mono (same_new hb) z.2.2⟩) h2⟩⟩
  | dF kvs =>
    obtain ⟨o, xs, h1, h2⟩ := hc
    exact ⟨_, (S.adoptH h1 hb ha ho).push ⟨p, rfl, hd, o, xs, upd_same, paired_imp (fun _ _ z => ⟨z.1, dq_mono (same_new hb) z.2⟩) h2⟩⟩
end
def isO : R → Option Nat
  | .o j => some j
  | _ => none
def boxes (rs : List R) : List Nat := rs.filterMap isO
def renR (js : List Nat) : R → R
  | .o j => .o (js.idxOf j)
  | r => r
def aliveB : Option Ct → Bool
  | none => false
  | some .dead => false
  | some _ => true
/-- written back -/
def wb (ce : List Ct) : List Nat → List Ct → List Ct
  | j :: js, c :: cs => wb (ce.set j c) js cs
  | _, _ => ce
theorem wb_len : ∀ (js : List Nat) (cs : List Ct) (ce : List Ct), (wb ce js cs).length = ce.length
  | [], _, _ => by simp [wb]
  | _ :: _, [], _ => by simp [wb]
  | j :: js, c :: cs, ce => by unfold wb; rw [wb_len js cs, List.length_set]
theorem wb_out : ∀ (js : List Nat) (cs : List Ct) (ce : List Ct) {i : Nat}, i ∉ js → (wb ce js cs)[i]? = ce[i]?
  | [], _, _, _, _ => by simp [wb]
  | _ :: _, [], _, _, _ => by simp [wb]
  | j :: js, c :: cs, ce, i, h => by
    unfold wb
    rw [wb_out js cs _ (fun z => h (List.mem_cons_of_mem _ z)), List.getElem?_set_ne (fun z => h (by rw [z]; exact List.mem_cons_self))]
theorem wb_in : ∀ (js : List Nat) (cs : List Ct) (ce : List Ct) {i j : Nat}, js.Nodup → cs.length = js.length → (∀ j ∈ js, j < ce.length) → js[i]? = some j → (wb ce js cs)[j]? = cs[i]?
  | [], _, _, _, _, _, _, _, h => by simp at h
  | _ :: _, [], _, _, _, _, h, _, _ => by simp at h
  | j :: js, c :: cs, ce, 0, q, nd, hl, hb, h => by
    have e : j = q := by simpa using h
    subst e
    unfold wb
    rw [wb_out js cs _ (List.nodup_cons.mp nd).1, List.getElem?_set_self (hb _ List.mem_cons_self)]
    rfl
  | j :: js, c :: cs, ce, i + 1, q, nd, hl, hb, h => by
    unfold wb
    rw [wb_in js cs (ce.set j c) (i := i) (j := q) (List.nodup_cons.mp nd).2 (by simpa using hl) (fun z hz => by rw [List.length_set]; exact hb z (List.mem_cons_of_mem _ hz)) (by simpa using h)]
    rfl
structure Bxs (al : List Addr) (ce : List Ct) (js : List Nat) (ps : List Addr) (bx : List Ct) : Prop where
  nd : js.Nodup
  l1 : ps.length = js.length
  l2 : bx.length = js.length
  at_ : ∀ (i j : Nat), js[i]? = some j → ∃ (p : Addr) (ct : Ct), ps[i]? = some p ∧ bx[i]? = some ct ∧ al[j]? = some p ∧ ce[j]? = some ct ∧ ct ≠ Ct.dead
theorem bxs_mk {al : List Addr} {ce : List Ct} (hl : al.length = ce.length) : ∀ {js : List Nat}, js.Nodup → (∀ j ∈ js, aliveB ce[j]? = true) → ∃ ps, Bxs al ce js ps (js.map fun j => ce.getD j .dead) := by
  intro js nd h
  refine ⟨js.map fun j => al.getD j 0, nd, List.length_map .., List.length_map .., fun i j e => ?_⟩
  have hj := h j (List.mem_of_getElem? e)
  cases hc : ce[j]? with
  | none => rw [hc] at hj; cases hj
  | some ct =>
    have hlt := (List.getElem?_eq_some_iff.mp hc).1
    have hal : al[j]? = some (al.getD j 0) := by rw [List.getD_eq_getElem?_getD, List.getElem?_eq_getElem (by omega)]; rfl
    refine ⟨_, ct, by rw [List.getElem?_map, e]; rfl, by rw [List.getElem?_map, e, Option.map_some, List.getD_eq_getElem?_getD, hc]; rfl, hal, rfl, fun z => ?_⟩
    rw [hc, z] at hj
    cases hj
section
variable {K : KR} {F : Fm} {g : G} {tm : List (V × R)} {s : L2.St} {H B : Hp} {al : List Addr} {js : List Nat} {ps : List Addr} {bx : List Ct}
theorem Bxs.mem (b : Bxs al g.ce js ps bx) {p : Addr} (hp : p ∈ ps) : ∃ (i j : Nat) (ct : Ct), ps[i]? = some p ∧ js[i]? = some j ∧ bx[i]? = some ct ∧ al[j]? = some p ∧ g.ce[j]? = some ct ∧ ct ≠ Ct.dead := by
  obtain ⟨i, hi, e⟩ := List.mem_iff_getElem.mp hp
  have hj : js[i]? = some (js[i]'(by rw [← b.l1]; exact hi)) := List.getElem?_eq_getElem _
  obtain ⟨p', ct, e1, e2, e3, e4, e5⟩ := b.at_ i _ hj
  have e0 : ps[i]? = some p := by rw [List.getElem?_eq_getElem hi, e]
  rw [e0] at e1
  cases e1
  exact ⟨i, _, ct, e0, hj, e2, e3, e4, e5⟩
theorem Bxs.pnd (b : Bxs al g.ce js ps bx) (hn : al.Nodup) : ps.Nodup := by
  refine List.pairwise_iff_getElem.mpr fun i k hi hk hik e0 => ?_
  have e : ps[i]? = ps[k]? := by rw [List.getElem?_eq_getElem hi, List.getElem?_eq_getElem hk, e0]
  have j1 : js[i]? = some (js[i]'(by rw [← b.l1]; exact hi)) := List.getElem?_eq_getElem _
  have j2 : js[k]? = some (js[k]'(by rw [← b.l1]; exact hk)) := List.getElem?_eq_getElem _
  obtain ⟨p1, _, a1, _, a3, _⟩ := b.at_ i _ j1
  obtain ⟨p2, _, b1, _, b3, _⟩ := b.at_ k _ j2
  rw [a1, b1] at e
  cases e
  have z := (List.getElem?_inj (List.getElem?_eq_some_iff.mp a3).1 hn).mp (a3.trans b3.symm)
  have z2 := (List.getElem?_inj (List.getElem?_eq_some_iff.mp j1).1 b.nd).mp (j1.trans (by rw [j2, z]))
  omega
def ownP (F : Fm) (H B : Hp) (al ps : List Addr) : Hp := fun a => if ps.contains a = true then none else ownN F H B al a
theorem ownP_in {a : Addr} (h : a ∈ ps) : ownP F H B al ps a = none := by unfold ownP; rw [if_pos (List.contains_iff_mem.mpr h)]
theorem ownP_out {a : Addr} (h : a ∉ ps) : ownP F H B al ps a = ownN F H B al a := by unfold ownP; rw [if_neg (fun z => h (List.contains_iff_mem.mp z))]
theorem callP_in (S : Stt K F g tm s H B al) (b : Bxs al g.ce js ps bx) : Stt (kAt K.fr K.rt.cl B (ownP F H B al ps) ps) ⟨B, ownP F H B al ps, ps⟩ ⟨[], bx⟩ [] [] H B ps := by
  have S0 := call_in S
  have get : ∀ (i : Nat) (a : Addr) (ct : Ct), ps[i]? = some a → bx[i]? = some ct → ∃ j, al[j]? = some a ∧ g.ce[j]? = some ct ∧ ct ≠ .dead := fun i a ct e1 e2 => by
    have hi : i < js.length := by rw [← b.l1]; exact (List.getElem?_eq_some_iff.mp e1).1
    obtain ⟨p', ct', q1, q2, q3, q4, q5⟩ := b.at_ i _ (List.getElem?_eq_getElem hi)
    rw [e1] at q1
    rw [e2] at q2
    cases q1
    cases q2
    exact ⟨_, q3, q4, q5⟩
  refine { rb := Same.refl _, ro := (fun _ _ e => e), rp := ⟨[], (List.append_nil _).symm⟩, ot := (fun a us e => by
    by_cases ha : a ∈ ps
    · have e : ownP F H B al ps a = some _ := e
      rw [ownP_in ha] at e; cases e
    · have e : ownP F H B al ps a = some _ := e
      rw [ownP_out ha] at e
      exact ownN_tup S a us e), fb := Same.refl _, bh := S.bh, fo := ?_, pre := ⟨[], (List.append_nil _).symm⟩, len := by rw [b.l1, b.l2], nd := b.pnd S.nd, lv := ?_, nb := ?_, ce := ?_, sl := (fun i r h => by simp at h), tm := (fun p hp => nomatch hp), sln := rfl }
  · intro a o e
    have e' : ownP F H B al ps a = some o := e
    by_cases ha : a ∈ ps
    · rw [ownP_in ha] at e'; cases e'
    · rw [ownP_out ha] at e'
      obtain ⟨q1, q2, _⟩ := S0.fo a o e'
      exact ⟨q1, q2, ha⟩
  · intro a ha
    obtain ⟨i, j, ct, _, _, _, e3, _⟩ := b.mem ha
    exact S.lv a (List.mem_of_getElem? e3)
  · intro i a ct e1 e2 e3
    obtain ⟨j, q1, q2, q3⟩ := get i a ct e1 e2
    exact S.nb j a ct q1 q2 q3
  · intro i a ct e1 e2
    obtain ⟨j, q1, q2, q3⟩ := get i a ct e1 e2
    exact ct_any (S.ce j a ct q1 q2)
theorem callP_out (S : Stt K F g tm s H B al) (b : Bxs al g.ce js ps bx) {H' B' : Hp} {al' : List Addr} {bx' ce' : List Ct} (hl : bx'.length = ps.length) (S' : Stt (kAt K.fr K.rt.cl B (ownP F H B al ps) ps) ⟨B, ownP F H B al ps, ps⟩ ⟨[], bx' ++ ce'⟩ [] [] H' B' al') :
    Stt K F { g with ce := wb g.ce js bx' } tm s H' B' al := by
  have eB : Same B B' := S'.fb
  obtain ⟨t, ht⟩ := S'.pre
  have ht : al' = ps ++ t := ht
  have hjl : ∀ j ∈ js, j < g.ce.length := fun j hj => by
    obtain ⟨i, hi, e⟩ := List.mem_iff_getElem.mp hj
    obtain ⟨_, _, _, _, _, q4, _⟩ := b.at_ i j (by rw [List.getElem?_eq_getElem hi, e])
    exact (List.getElem?_eq_some_iff.mp q4).1
  have hlj : bx'.length = js.length := by rw [hl, b.l1]
  have old : ∀ a ∈ al, a ∉ ps → B a = none → ∀ o, H a = some o → H' a = some o ∧ B' a = none := fun a ha hp hb o ho => by
    obtain ⟨q1, q2, _⟩ := S'.fo a o (by show ownP F H B al ps a = some o; rw [ownP_out hp, ownN_in ha hb]; exact ho)
    exact ⟨q1, q2⟩
  -- which cell
  have cell : ∀ (j : Nat) (a : Addr) (ct : Ct), al[j]? = some a → (wb g.ce js bx')[j]? = some ct → (∃ i, ps[i]? = some a ∧ bx'[i]? = some ct) ∨ (a ∉ ps ∧ g.ce[j]? = some ct) := fun j a ct e1 e2 => by
    by_cases hj : j ∈ js
    · obtain ⟨i, hi, e⟩ := List.mem_iff_getElem.mp hj
      have hji : js[i]? = some j := by rw [List.getElem?_eq_getElem hi, e]
      obtain ⟨p, c, q1, q2, q3, q4, q5⟩ := b.at_ i j hji
      rw [e1] at q3
      cases q3
      rw [wb_in js bx' g.ce b.nd hlj hjl hji] at e2
      exact .inl ⟨i, q1, e2⟩
    · rw [wb_out js bx' _ hj] at e2
      refine .inr ⟨fun ha => ?_, e2⟩
      obtain ⟨i, j', c, _, q2, _, q4, _⟩ := b.mem ha
      have z := (List.getElem?_inj (List.getElem?_eq_some_iff.mp e1).1 S.nd).mp (e1.trans q4.symm)
      subst z
      exact hj (List.mem_of_getElem? q2)
  have inS : ∀ (i : Nat) (a : Addr) (ct : Ct), ps[i]? = some a → bx'[i]? = some ct → al'[i]? = some a ∧ (bx' ++ ce')[i]? = some ct := fun i a ct e1 e2 => by
    rw [ht, List.getElem?_append_left (List.getElem?_eq_some_iff.mp e1).1, List.getElem?_append_left (List.getElem?_eq_some_iff.mp e2).1]
    exact ⟨e1, e2⟩
  refine { rb := S.rb, ro := S.ro, rp := S.rp, ot := S.ot, fb := S.fb.trans eB, bh := S'.bh, fo := ?_, pre := S.pre, len := by rw [wb_len]; exact S.len, nd := S.nd, lv := ?_, nb := ?_, ce := ?_, sl := ?_, tm := ?_, sln := S.sln }
  · intro a o e
    obtain ⟨z1, z2, z3⟩ := S.fo a o e
    have ne : a ∉ ps := fun z => by
      obtain ⟨_, _, _, _, _, _, q, _⟩ := b.mem z
      exact z3 (List.mem_of_getElem? q)
    obtain ⟨q1, q2, _⟩ := S'.fo a o (by show ownP F H B al ps a = some o; rw [ownP_out ne, ownN_out z3]; exact e)
    exact ⟨q1, q2, z3⟩
  · intro a ha
    by_cases hp : a ∈ ps
    · exact S'.lv a (by rw [ht]; exact List.mem_append_left _ hp)
    · obtain ⟨o, ho⟩ := S.lv a ha
      cases hb : B a with
      | none => exact ⟨o, (old a ha hp hb o ho).1⟩
      | some u => exact ⟨u, S'.bh _ _ (eB _ _ hb)⟩
  · intro j a ct e1 e2 e3
    rcases cell j a ct e1 e2 with ⟨i, q1, q2⟩ | ⟨q1, q2⟩
    · obtain ⟨z1, z2⟩ := inS i a ct q1 q2
      exact S'.nb i a ct z1 z2 e3
    · obtain ⟨o, ho⟩ := S.lv a (List.mem_of_getElem? e1)
      exact (old a (List.mem_of_getElem? e1) q1 (S.nb j a ct e1 q2 e3) o ho).2
  · intro j a ct e1 e2
    rcases cell j a ct e1 e2 with ⟨i, q1, q2⟩ | ⟨q1, q2⟩
    · obtain ⟨z1, z2⟩ := inS i a ct q1 q2
      exact ct_any (S'.ce i a ct z1 z2)
    · by_cases hdd : ct = .dead
      · subst hdd
        obtain ⟨o, h3, h4⟩ := S.ce j a _ e1 q2
        cases hb : B a with
        | none => exact ⟨o, (old a (List.mem_of_getElem? e1) q1 hb o h3).1, h4⟩
        | some u =>
          have := S.bh _ _ hb
          rw [h3] at this
          cases this
          exact ⟨o, S'.bh _ _ (eB _ _ hb), h4⟩
      · exact ct_mono0 eB (fun o e => (old a (List.mem_of_getElem? e1) q1 (S.nb j a ct e1 q2 hdd) o e).1) (S.ce j a ct e1 q2)
  · intro i r e
    obtain ⟨v, q1, q2⟩ := S.sl i r e
    exact ⟨v, q1, rv_mono0 eB q2⟩
  · intro q hq
    exact rv_mono0 eB (S.tm q hq)
theorem callP_new (S : Stt K F g tm s H B al) (b : Bxs al g.ce js ps bx) {H' B' : Hp} {al' : List Addr} {ce' : List Ct} {j : Nat} {p : Addr} {ct : Ct} (S' : Stt (kAt K.fr K.rt.cl B (ownP F H B al ps) ps) ⟨B, ownP F H B al ps, ps⟩ ⟨[], ce'⟩ [] [] H' B' al') (hj : ps.length ≤ j)
    (e1 : al'[j]? = some p) (e2 : ce'[j]? = some ct) (e3 : ct ≠ .dead) : (∃ o, H' p = some o) ∧ B' p = none ∧ p ∉ al ∧ F.O p = none ∧ CtOk K B' al H' p ct := by
  have hx := S'.ce j p _ e1 e2
  have hb := S'.nb j p _ e1 e2 e3
  have hm := List.mem_of_getElem? e1
  obtain ⟨t, ht⟩ := S'.pre
  have ht : al' = ps ++ t := ht
  have np : p ∉ ps := fun z => by
    obtain ⟨i, hi, e⟩ := List.mem_iff_getElem.mp z
    have z0 : al'[i]? = some p := by rw [ht, List.getElem?_append_left hi, List.getElem?_eq_getElem hi, e]
    have := (List.getElem?_inj (List.getElem?_eq_some_iff.mp e1).1 S'.nd).mp (e1.trans z0.symm)
    omega
  refine ⟨S'.lv p hm, hb, fun ha => ?_, ?_, ct_any hx⟩
  · cases hB : B p with
    | none =>
      obtain ⟨o, ho⟩ := S.lv p ha
      exact (S'.fo p o (by show ownP F H B al ps p = some o; rw [ownP_out np, ownN_in ha hB]; exact ho)).2.2 hm
    | some u => rw [S'.fb _ _ hB] at hb; cases hb
  · cases hF : F.O p with
    | none => rfl
    | some o => exact absurd hm (S'.fo p o (by show ownP F H B al ps p = some o; rw [ownP_out np, ownN_out (S.fo p o hF).2.2]; exact hF)).2.2
def noL : R → Bool
  | .l _ => false
  | .f _ _ => false
  | _ => true
theorem paired_ren {O : Hp} (b : Bxs al g.ce js ps bx) {vs : List V} {rs : List R} (h : Paired (RvOk K B al) vs rs) : rs.all noL = true → (∀ j ∈ boxes rs, j ∈ js) → Paired (RvOk (kAt K.fr K.rt.cl B O ps) B ps) vs (rs.map (renR js)) := by
  induction h with
  | nil => intro _ _; exact .nil
  | @cons v r vs rs a t ih =>
    intro hno hj
    rw [List.all_cons, Bool.and_eq_true] at hno
    refine .cons ?_ (ih hno.2 fun j h => hj j ?_)
    · cases r with
      | d x => exact a
      | s ns => exact a
      | x n => exact a
      | l js => exact absurd hno.1 (by simp [noL])
      | f j ds => exact absurd hno.1 (by simp [noL])
      | m ct =>
        obtain ⟨p, e1, e2, e3⟩ := a
        exact ⟨p, e1, e2, ct_any e3⟩
      | o j =>
        obtain ⟨p, e1, e2⟩ := a
        have hm : j ∈ js := hj j (by unfold boxes; rw [List.filterMap_cons]; exact List.mem_cons_self)
        have hi : js.idxOf j < js.length := List.idxOf_lt_length_of_mem hm
        obtain ⟨p', _, q1, _, q3, _⟩ := b.at_ (js.idxOf j) j (by rw [List.getElem?_eq_getElem hi, List.getElem_idxOf hi])
        rw [e1] at q3
        cases q3
        exact ⟨p, q1, e2⟩
    · unfold boxes at h ⊢
      rw [List.filterMap_cons]
      cases isO r with
      | none => exact h
      | some i => exact List.mem_cons_of_mem _ h
end
section
variable {X : Cx} {k : Nat} {f : Addr} {fd : FuncData} {ps : List Str} {sp : Sp} {E : L2.St → XK} {x : Str} {p pos : Pos} {e : Expr} {es : List Expr} {t : TA}
theorem run_fnG {pins : List (Addr × Obj)} {σ : L2.St} {H : Hp} {s : Shared} {Q : VK} {us : List Value} {vs : List V} (F : FnG X.prog X.w X.K X.mg X.base (L2.CX X.prog X.w) k f fd ps sp) (hr : Calm k X.A) (hb : Binds X.K fd ps []) (hx : PassesAt (L2.CX X.prog X.w) X σ (E σ))
    (I : Inv X pins σ H s) (r : Vals vs us) (h : sp vs H Q (E σ)) : wpAny (model X.prog X.w) X.A (call (.ref f) us) (EP X pins σ Q) X.xe s := by
  have hl : us.length = ps.length := by rw [← r.length]; exact F.count _ _ _ _ h
  have b := hb s us I.kIn (by rw [List.append_nil]; exact hl)
  rw [List.append_nil] at b
  exact runs_G (as := ⟨us, []⟩) F hr I (fun v s' q => hx pins H s v s' I q) b r h
theorem pe_callG (F : FnG X.prog X.w X.K X.mg X.base (L2.CX X.prog X.w) k f fd ps sp) (hr : Calm k X.A) (hg : Gl X x) (hm : X.mg x = some (.ref f)) (hk : PySem.W.keepIn X.K (.ref f) = true) (hb : Binds X.K fd ps []) (hx : ∀ σ, PassesAt (L2.CX X.prog X.w) X σ (E σ))
    (ha : PA X (e :: es) t) (hdb : (x == ("__debug__" : Str)) = false := by decide) (he : starEach (e :: es) X.env = (false, eval e X.env) :: starEach es X.env := by rfl) (hpl : (backTo pos (starEach es X.env)).any (·.1) = false := by rfl) :
    PE X (.Call (.Name x p) (e :: es) [] pos) (tCallS sp E t) := by
  refine ⟨fun pins s σ H Q I h => ?_⟩
  refine wpAny_Call_Name_kw (ld_glob I hg hm ?_ hdb)
  refine PySem.W.callWith_K (h₀ := X.base) I.ok.mod.kin hk (thn (ha.run pos pins s σ H _ I h) fun us s1 ⟨vs, H1, I1, r, q⟩ => ⟨I1.kIn, ?_⟩) he hpl
  exact run_fnG F hr hb (hx σ) I1 r q
end
end DL
set_option Elab.async false
set_option linter.all false
set_option maxRecDepth 100000
set_option maxHeartbeats 4000000
set_option autoImplicit false
namespace DZ
open PySem
open PySem.Sem (wp)
section
variable {prog : Program} {w : World} {A : Around} {E : Value → Shared → Prop} {s : Shared}
theorem nx_item {it : Addr} {fp : List Addr} {n i : Nat} {P : Nat → Value → Prop} {St : Nat → Heap → Prop} {Q : Option Value → Shared → Prop} (D : Draws prog w A it fp n P St) (hi : i < n) (st : St i s.heap)
    (hQ : ∀ x h' tk, P i x → St (i + 1) h' → Heap.SameBut it s.heap h' → Q (some x) { s with heap := h', toks := tk }) : wpAny (model prog w) A (Builtin.SmallTypes.nextOrEnd (.ref it)) Q E s := by
  unfold Builtin.SmallTypes.nextOrEnd
  exact wpAny_bind (wpAny_attempt (D.item i s _ _ hi st fun x h' tk hx st' hs => wpAny_pure (hQ x h' tk hx st' hs)))
theorem nx_done {it : Addr} {fp : List Addr} {n : Nat} {P : Nat → Value → Prop} {St : Nat → Heap → Prop} {Q : Option Value → Shared → Prop} (D : Draws prog w A it fp n P St) (st : St n s.heap)
    (hQ : ∀ h', Heap.ExtBut it s.heap h' → Q none { s with heap := h' }) : wpAny (model prog w) A (Builtin.SmallTypes.nextOrEnd (.ref it)) Q E s := by
  unfold Builtin.SmallTypes.nextOrEnd
  refine wpAny_bind (wpAny_attempt (D.done s _ _ st fun h' e hb he => ?_))
  obtain ⟨o, ho, hc⟩ := he
  refine wpAny_bind (wpAny_isInstance (T := "StopIteration") (b := true) ⟨o, ho, hc⟩ isSubtype_stop ?_)
  exact wpAny_pure (hQ h' hb)
theorem stop_raised {α : Type} {Q : α → Shared → Prop} (hh : A.handled = none) (hE : ∀ h' e, (∀ b o, s.heap.get? b = some o → h'.get? b = some o) → (∃ o, h'.get? e = some o ∧ o.cls = .type "StopIteration") → E (.ref e) { s with heap := h' }) :
    wpAny (model prog w) A (Builtin.SmallTypes.stopIteration (α := α)) Q E s := by
  unfold Builtin.SmallTypes.stopIteration
  refine wpAny_bind ?_
  simp only [newExc, newTuple]
  refine wpAny_bind (wpAny_newObj_type ?_ (by size_fits))
  refine wpAny_bind (m := firstArgMember _ _) (wpAny_of_eq (a := Value.none) (by first | rfl | (simp only [firstArgMember]; rfl)) ?_)
  refine wpAny_newObj_type ?_ (by size_fits)
  simp only [raiseNew]
  refine wpAny_bind (wpAny_handled ?_)
  rw [hh]
  refine wpAny_bind (wpAny_pure (wpAny_throw ?_))
  exact hE _ _ (fun b o e => Heap.get?_push_of_some _ (Heap.get?_push_of_some _ e)) ⟨_, Heap.get?_push_size _ rfl, rfl⟩
theorem overX {it : Addr} {fp : List Addr} {n : Nat} {P : Nat → Value → Prop} {St : Nat → Heap → Prop} (D : Draws prog w A it fp n P St) {i : Nat} {h h' : Heap} {x : Addr} (st : St i h) (hs : Heap.ExtBut x h h') (hx : x ∉ fp) : St i h' :=
  D.frame i h h' st fun b hb o e => hs b o (fun q => hx (q ▸ hb)) e
end
/-- a zip, strict: true -/
abbrev IsZS (h : Heap) (z TI TO : Addr) (f0 : Value) (f : Bool) : Prop := h.get? z = some { cls := .type "zip", dict := none, data := .fields #[f0, .bool f, .bool true, .ref TI, .ref TO], slots := #[] }
section
variable {prog : Program} {w : World} {A : Around} {E : Value → Shared → Prop} {s : Shared}
theorem heldS {z TI TO T : Addr} {f : Bool} {oT : Obj} {Q : Bool → Shared → Prop} (hz : IsZS s.heap z TI TO (rawInt T) f) (hT : s.heap.get? T = some oT)
    (h : ∀ h', IsZS h' z TI TO (rawInt T) true → Heap.SameBut z s.heap h' → Q false { s with heap := h' }) : wpAny (model prog w) A (Builtin.SmallTypes.ownedTupleIsFree (.ref z)) Q E s := by
  unfold Builtin.SmallTypes.ownedTupleIsFree
  refine wpAny_bind (wpAny_field hz rfl (x := rawInt T) rfl ?_)
  show wpAny _ _ (loadIfAlive ((T : Int).toNat) >>= _) _ _ _
  rw [Int.toNat_natCast]
  refine wpAny_bind (PySem.W.kdx_alive hT ?_)
  simp only [Option.isNone_some, Bool.false_eq_true, if_false]
  refine wpAny_bind (wpAny_field hz rfl (x := .bool f) rfl ?_)
  cases f with
  | true =>
    rw [if_neg (show ¬ ((Value.bool true != Value.bool true) = true) from Bool.false_ne_true)]
    exact wpAny_pure (h s.heap hz (Heap.SameBut.refl _ _))
  | false =>
    rw [if_pos (show (Value.bool false != Value.bool true) = true from rfl)]
    exact wpAny_bind (wpAny_setField_rec hz (by simp) fun h₁ hz₁ hs₁ => wpAny_pure (h h₁ hz₁ hs₁))
theorem iterS {z TI TO : Addr} {f0 : Value} {f : Bool} {Q : Value → Shared → Prop} (hz : IsZS s.heap z TI TO f0 f) (h : Q (.ref z) s) : wpAny (model prog w) A (pyIter (.ref z)) Q E s := by
  have hT : s.TypeIs (.ref z) "zip" := ⟨_, hz, rfl⟩
  refine wpAny_pyIter_slot hT F.slot_zip_iter (wpAny_call_entry F.slot_zip_iter hT F.entry_zip_iter ?_ (F.args_zip_iter_1 _))
  show wpAny _ _ (ret (.ref z)) _ _ s
  exact wpAny_pure ⟨_, rfl, "zip", _, hT, F.slot_zip_next.lookup, h⟩
end
section
variable {prog : Program} {w : World} {A : Around} {E : Value → Shared → Prop} {s : Shared} {z TI TO i1 i2 : Addr} {fp1 fp2 : List Addr} {m i : Nat} {P1 P2 : Nat → Value → Prop} {St1 St2 : Nat → Heap → Prop} {a1 a2 : Value} {f : Bool}
theorem zS2_item {Q : Value → Shared → Prop} (S : ZipSep2 z TI TO i1 i2 fp1 fp2) (D1 : Draws prog w A i1 fp1 m P1 St1) (D2 : Draws prog w A i2 fp2 m P2 St2)
    (hz : IsZS s.heap z TI TO .none f) (hTI : IsTupOf2 s.heap TI (.ref i1) (.ref i2)) (hTO : IsTupOf2 s.heap TO a1 a2) (st1 : St1 i s.heap) (st2 : St2 i s.heap) (hlt : i < m)
    (hQ : ∀ x1 x2 h' tk, P1 i x1 → P2 i x2 → IsZS h' z TI TO (rawInt s.heap.objs.size) false → IsTupOf2 h' TO x1 x2 → St1 (i + 1) h' → St2 (i + 1) h' → IsTupOf2 h' s.heap.objs.size x1 x2 → h'.objs.size = s.heap.objs.size + 1 →
      (∀ c o, c ≠ z → c ≠ TO → c ≠ i1 → c ≠ i2 → s.heap.get? c = some o → h'.get? c = some o) → Q (.ref s.heap.objs.size) { s with heap := h', toks := tk }) :
    wpAny (model prog w) A (Builtin.«zip.__next__» ⟨[.ref z], []⟩) (fun fin s' => ∃ v, fin = .done (.ret v) ∧ Q v s') E s := by
  obtain ⟨hp, g, d, tk0, os⟩ := s
  show wpAny _ _ (field (.ref z) 2 >>= _) _ _ _
  refine wpAny_bind (wpAny_field hz rfl (x := .bool true) rfl ?_)
  show wpAny _ _ (field (.ref z) 3 >>= _) _ _ _
  refine wpAny_bind (wpAny_field hz rfl (x := .ref TI) rfl ?_)
  refine wpAny_bind (wpAny_seqItems hTI rfl ?_)
  show wpAny _ _ (Builtin.SmallTypes.ownedTupleIsFree (.ref z) >>= _) _ _ _
  refine wpAny_bind ?_
  unfold Builtin.SmallTypes.ownedTupleIsFree
  refine wpAny_bind (wpAny_field hz rfl (x := .none) rfl (wpAny_pure ?_))
  simp only [if_true]
  refine wpAny_bind (wpAny_rule ?_)
  refine wpAny_bind (wpAny_field hz rfl (x := .ref TO) rfl ?_)
  refine wpAny_bind (wpAny_setField_rec hz (by simp) fun g0 hz0 hs0 => ?_)
  replace hz0 : IsZS g0 z TI TO .ellipsis f := hz0
  replace hs0 : Heap.SameBut z hp g0 := hs0
  refine wpAny_bind ?_
  simp only [List.zipIdx_cons, List.zipIdx_nil, List.forIn_cons, List.forIn_nil]
  refine wpAny_bind (wpAny_bind (wpAny_onRaise ?_))
  show wpAny _ _ (Builtin.SmallTypes.nextOrEnd (.ref i1)) _ _ ⟨g0, g, d, tk0, os⟩
  refine nx_item D1 hlt (D1.over st1 hs0 S.zf1) fun x1 p1 tk1 hx1 sn1 hp1 => ?_
  replace hp1 : Heap.SameBut i1 g0 p1 := hp1
  have hU1 : IsTupOf2 p1 TO a1 a2 := hp1.extBut _ _ S.Ti1 (hs0.extBut _ _ S.TOz hTO)
  refine wpAny_bind (wpAny_seqItems (s := ⟨p1, g, d, tk1, os⟩) hU1 rfl ?_)
  refine wpAny_bind (updateSeq_IsTupOf2 (s := ⟨p1, g, d, tk1, os⟩) hU1 fun g1 hT1 hs1 => ?_)
  replace hT1 : IsTupOf2 g1 TO x1 a2 := hT1
  replace hs1 : Heap.SameBut TO p1 g1 := hs1
  refine wpAny_bind (wpAny_letGo (wpAny_pure ?_))
  refine wpAny_bind (wpAny_bind (wpAny_onRaise ?_))
  show wpAny _ _ (Builtin.SmallTypes.nextOrEnd (.ref i2)) _ _ ⟨g1, g, d, tk1, os⟩
  refine nx_item D2 hlt (D2.over (D2.over (D2.over st2 hs0 S.zf2) hp1 S.sep1_2) hs1 S.Tf2) fun x2 p2 tk2 hx2 sn2 hp2 => ?_
  replace hp2 : Heap.SameBut i2 g1 p2 := hp2
  have hU2 : IsTupOf2 p2 TO x1 a2 := hp2.extBut _ _ S.Ti2 hT1
  refine wpAny_bind (wpAny_seqItems (s := ⟨p2, g, d, tk2, os⟩) hU2 rfl ?_)
  refine wpAny_bind (updateSeq_IsTupOf2 (s := ⟨p2, g, d, tk2, os⟩) hU2 fun g2 hT2 hs2 => ?_)
  replace hT2 : IsTupOf2 g2 TO x1 x2 := hT2
  replace hs2 : Heap.SameBut TO p2 g2 := hs2
  refine wpAny_bind (wpAny_letGo (wpAny_pure (wpAny_pure ?_)))
  refine wpAny_bind (wpAny_seqItems (s := ⟨g2, g, d, tk2, os⟩) hT2 rfl ?_)
  refine wpAny_bind (wpAny_newTuple ?_)
  have hsz : g2.objs.size = hp.objs.size := by rw [hs2.1, hp2.1, hs1.1, hp1.1, hs0.1]
  have hzz : IsZS g2 z TI TO .ellipsis f := hs2.extBut _ _ S.TOz.symm (hp2.extBut _ _ S.zi2 (hs1.extBut _ _ S.TOz.symm (hp1.extBut _ _ S.zi1 (hz0))))
  have hkk : ∀ c o, c ≠ z → c ≠ TO → c ≠ i1 → c ≠ i2 → hp.get? c = some o → g2.get? c = some o := fun c o cz cT c1 c2 e => hs2.extBut _ _ cT (hp2.extBut _ _ c2 (hs1.extBut _ _ cT (hp1.extBut _ _ c1 (hs0.extBut _ _ cz e))))
  have hj1 : St1 (i + 1) g2 := D1.over (D1.over (D1.over sn1 hs1 S.Tf1) hp2 S.sep2_1) hs2 S.Tf1
  have hj2 : St2 (i + 1) g2 := D2.over sn2 hs2 S.Tf2
  have hzlt : z < g2.objs.size := Heap.lt_size hzz
  show wpAny _ _ (Builtin.SmallTypes.ownedTupleHandOut (.ref z) (.ref g2.objs.size) >>= _) _ _ ⟨g2.push { cls := .type "tuple", data := .seq #[x1, x2] }, g, d, tk2, os⟩
  refine wpAny_bind ?_
  unfold Builtin.SmallTypes.ownedTupleHandOut
  have hz6 : IsZS (g2.push { cls := .type "tuple", data := .seq #[x1, x2] }) z TI TO .ellipsis f := Heap.get?_push_of_some _ hzz
  refine wpAny_bind (wpAny_setField_rec hz6 (by simp) fun h7 hz7 hs7 => ?_)
  replace hz7 : IsZS h7 z TI TO (rawInt g2.objs.size) f := hz7
  refine wpAny_setField_rec hz7 (by simp) fun h8 hz8 hs8 => ?_
  replace hz8 : IsZS h8 z TI TO (rawInt g2.objs.size) false := hz8
  replace hs7 : Heap.SameBut z (g2.push { cls := .type "tuple", data := .seq #[x1, x2] }) h7 := hs7
  replace hs8 : Heap.SameBut z h7 h8 := hs8
  have up : ∀ c o, c ≠ z → g2.get? c = some o → h8.get? c = some o := fun c o c1 e => hs8.extBut _ _ c1 (hs7.extBut _ _ c1 (Heap.get?_push_of_some _ e))
  have hT8 : IsTupOf2 h8 g2.objs.size x1 x2 := hs8.extBut _ _ (Nat.ne_of_gt hzlt) (hs7.extBut _ _ (Nat.ne_of_gt hzlt) (Heap.get?_push_size _ rfl))
  have hz9 : h8.objs.size = g2.objs.size + 1 := by rw [hs8.1, hs7.1, Heap.size_push]
  rw [hsz] at hz8 hT8 hz9
  refine wpAny_pure ⟨_, rfl, ?_⟩
  show Q (.ref g2.objs.size) ⟨h8, g, d, tk2, os⟩
  rw [hsz]
  exact hQ x1 x2 h8 tk2 hx1 hx2 hz8 (up _ _ S.TOz hT2) (D1.frame _ _ _ hj1 fun b hb o e => up b o (fun q => S.zf1 (q ▸ hb)) e) (D2.frame _ _ _ hj2 fun b hb o e => up b o (fun q => S.zf2 (q ▸ hb)) e) hT8 hz9 fun c o cz cT c1 c2 e => up c o cz (hkk c o cz cT c1 c2 e)
theorem zS2_itemH {T : Addr} {oT : Obj} {Q : Value → Shared → Prop} (S : ZipSep2 z TI TO i1 i2 fp1 fp2) (D1 : Draws prog w A i1 fp1 m P1 St1) (D2 : Draws prog w A i2 fp2 m P2 St2)
    (hz : IsZS s.heap z TI TO (rawInt T) f) (hT : s.heap.get? T = some oT) (hTI : IsTupOf2 s.heap TI (.ref i1) (.ref i2)) (st1 : St1 i s.heap) (st2 : St2 i s.heap) (hlt : i < m)
    (hQ : ∀ x1 x2 h' tk, P1 i x1 → P2 i x2 → IsZS h' z TI TO (rawInt T) true → St1 (i + 1) h' → St2 (i + 1) h' → IsTupOf2 h' s.heap.objs.size x1 x2 → h'.objs.size = s.heap.objs.size + 1 →
      (∀ c o, c ≠ z → c ≠ i1 → c ≠ i2 → s.heap.get? c = some o → h'.get? c = some o) → Q (.ref s.heap.objs.size) { s with heap := h', toks := tk }) :
    wpAny (model prog w) A (Builtin.«zip.__next__» ⟨[.ref z], []⟩) (fun fin s' => ∃ v, fin = .done (.ret v) ∧ Q v s') E s := by
  obtain ⟨hp, g, d, tk0, os⟩ := s
  show wpAny _ _ (field (.ref z) 2 >>= _) _ _ _
  refine wpAny_bind (wpAny_field hz rfl (x := .bool true) rfl ?_)
  show wpAny _ _ (field (.ref z) 3 >>= _) _ _ _
  refine wpAny_bind (wpAny_field hz rfl (x := .ref TI) rfl ?_)
  refine wpAny_bind (wpAny_seqItems hTI rfl ?_)
  show wpAny _ _ (Builtin.SmallTypes.ownedTupleIsFree (.ref z) >>= _) _ _ _
  refine wpAny_bind (heldS (s := ⟨hp, g, d, tk0, os⟩) hz hT fun g0 hz0 hs0 => ?_)
  replace hs0 : Heap.SameBut z hp g0 := hs0
  simp only [Bool.false_eq_true, if_false]
  refine wpAny_bind ?_
  rw [← Array.forIn_toList]
  simp only [List.forIn_cons, List.forIn_nil]
  refine wpAny_bind (wpAny_bind (wpAny_holding ?_))
  show wpAny _ _ (Builtin.SmallTypes.nextOrEnd (.ref i1)) _ _ ⟨g0, g, d, tk0, os⟩
  refine nx_item D1 hlt (D1.over st1 hs0 S.zf1) fun x1 p1 tk1 hx1 sn1 hp1 => ?_
  replace hp1 : Heap.SameBut i1 g0 p1 := hp1
  refine wpAny_pure ?_
  refine wpAny_bind (wpAny_bind (wpAny_holding ?_))
  show wpAny _ _ (Builtin.SmallTypes.nextOrEnd (.ref i2)) _ _ ⟨p1, g, d, tk1, os⟩
  refine nx_item D2 hlt (D2.over (D2.over st2 hs0 S.zf2) hp1 S.sep1_2) fun x2 p2 tk2 hx2 sn2 hp2 => ?_
  replace hp2 : Heap.SameBut i2 p1 p2 := hp2
  refine wpAny_pure (wpAny_pure ?_)
  show wpAny _ _ (newTuple [x1, x2] >>= _) _ _ ⟨p2, g, d, tk2, os⟩
  refine wpAny_bind (wpAny_newTuple ?_)
  have hsz : p2.objs.size = hp.objs.size := by rw [hp2.1, hp1.1, hs0.1]
  have hzz : IsZS p2 z TI TO (rawInt T) true := hp2.extBut _ _ S.zi2 (hp1.extBut _ _ S.zi1 (hz0))
  have hkk : ∀ c o, c ≠ z → c ≠ i1 → c ≠ i2 → hp.get? c = some o → p2.get? c = some o := fun c o cz c1 c2 e => hp2.extBut _ _ c2 (hp1.extBut _ _ c1 (hs0.extBut _ _ cz e))
  have hj1 : St1 (i + 1) p2 := D1.over (sn1) hp2 S.sep2_1
  have hj2 : St2 (i + 1) p2 := sn2
  refine wpAny_pure ⟨_, rfl, ?_⟩
  show Q (.ref p2.objs.size) ⟨p2.push { cls := .type "tuple", data := .seq #[x1, x2] }, g, d, tk2, os⟩
  have hq : IsTupOf2 (p2.push { cls := .type "tuple", data := .seq #[x1, x2] }) p2.objs.size x1 x2 := Heap.get?_push_size _ rfl
  have hz4 : (p2.push { cls := .type "tuple", data := .seq #[x1, x2] }).objs.size = p2.objs.size + 1 := Heap.size_push ..
  rw [hsz] at hq hz4 ⊢
  exact hQ x1 x2 _ tk2 hx1 hx2 (Heap.get?_push_of_some _ hzz) (D1.frame _ _ _ hj1 fun b hb o e => Heap.get?_push_of_some _ e) (D2.frame _ _ _ hj2 fun b hb o e => Heap.get?_push_of_some _ e) hq hz4 fun c o cz c1 c2 e => Heap.get?_push_of_some _ (hkk c o cz c1 c2 e)
theorem zS2_end {Q : Fin → Shared → Prop} (hh : A.handled = none) (S : ZipSep2 z TI TO i1 i2 fp1 fp2) (D1 : Draws prog w A i1 fp1 m P1 St1) (D2 : Draws prog w A i2 fp2 m P2 St2)
    (hz : IsZS s.heap z TI TO .none f) (hTI : IsTupOf2 s.heap TI (.ref i1) (.ref i2)) (st1 : St1 m s.heap) (st2 : St2 m s.heap)
    (hE : ∀ h' tk e, (∀ c o, c ≠ z → c ≠ i1 → c ≠ i2 → s.heap.get? c = some o → h'.get? c = some o) → (∃ o, h'.get? e = some o ∧ o.cls = .type "StopIteration") → E (.ref e) { s with heap := h', toks := tk }) :
    wpAny (model prog w) A (Builtin.«zip.__next__» ⟨[.ref z], []⟩) Q E s := by
  obtain ⟨hp, g, d, tk0, os⟩ := s
  show wpAny _ _ (field (.ref z) 2 >>= _) _ _ _
  refine wpAny_bind (wpAny_field hz rfl (x := .bool true) rfl ?_)
  show wpAny _ _ (field (.ref z) 3 >>= _) _ _ _
  refine wpAny_bind (wpAny_field hz rfl (x := .ref TI) rfl ?_)
  refine wpAny_bind (wpAny_seqItems hTI rfl ?_)
  show wpAny _ _ (Builtin.SmallTypes.ownedTupleIsFree (.ref z) >>= _) _ _ _
  refine wpAny_bind ?_
  unfold Builtin.SmallTypes.ownedTupleIsFree
  refine wpAny_bind (wpAny_field hz rfl (x := .none) rfl (wpAny_pure ?_))
  simp only [if_true]
  refine wpAny_bind (wpAny_rule ?_)
  refine wpAny_bind (wpAny_field hz rfl (x := .ref TO) rfl ?_)
  refine wpAny_bind (wpAny_setField_rec hz (by simp) fun g0 hz0 hs0 => ?_)
  replace hz0 : IsZS g0 z TI TO .ellipsis f := hz0
  replace hs0 : Heap.SameBut z hp g0 := hs0
  refine wpAny_bind ?_
  simp only [List.zipIdx_cons, List.zipIdx_nil, List.forIn_cons, List.forIn_nil]
  refine wpAny_bind (wpAny_bind (wpAny_onRaise ?_))
  show wpAny _ _ (Builtin.SmallTypes.nextOrEnd (.ref i1)) _ _ ⟨g0, g, d, tk0, os⟩
  refine nx_done D1 (D1.over st1 hs0 S.zf1) fun p1 hp1 => ?_
  replace hp1 : Heap.ExtBut i1 g0 p1 := hp1
  have hzq : IsZS p1 z TI TO .ellipsis f := hp1 _ _ S.zi1 hz0
  refine wpAny_bind (wpAny_setField_rec (s := ⟨p1, g, d, tk0, os⟩) hzq (by simp) fun g1 _ hs1 => ?_)
  replace hs1 : Heap.SameBut z p1 g1 := hs1
  refine wpAny_bind ?_
  show wpAny _ _ (do
    for (it, j) in (([Value.ref i1, Value.ref i2] : List Value).drop 1).zipIdx 1 do
      if (← Builtin.SmallTypes.nextOrEnd it).isSome then
        rule "zip.__next__.longer"; raiseError "ValueError" _
    rule "zip.__next__.all-ended"; Builtin.SmallTypes.stopIteration) _ _ ⟨g1, g, d, tk0, os⟩
  simp only [List.drop_succ_cons, List.drop_zero, List.zipIdx_cons, List.zipIdx_nil, List.forIn_cons, List.forIn_nil]
  refine wpAny_bind ?_
  refine wpAny_bind (wpAny_bind (nx_done (s := ⟨g1, g, d, tk0, os⟩) D2 (D2.over (overX D2 (D2.over st2 hs0 S.zf2) hp1 S.sep1_2) hs1 S.zf2) fun p2 hp2 => ?_))
  replace hp2 : Heap.ExtBut i2 g1 p2 := hp2
  simp only [Option.isSome_none, Bool.false_eq_true, if_false]
  refine wpAny_pure (wpAny_pure ?_)
  refine wpAny_bind (wpAny_rule (stop_raised (s := ⟨p2, g, d, tk0, os⟩) hh fun h' e hk he => ?_))
  exact hE h' tk0 e (fun c o cz c1 c2 x => hk _ _ (hp2 _ _ c2 (hs1.extBut _ _ cz (hp1 _ _ c1 (hs0.extBut _ _ cz x))))) he
theorem zS2_endH {T : Addr} {oT : Obj} {Q : Fin → Shared → Prop} (hh : A.handled = none) (S : ZipSep2 z TI TO i1 i2 fp1 fp2) (D1 : Draws prog w A i1 fp1 m P1 St1) (D2 : Draws prog w A i2 fp2 m P2 St2)
    (hz : IsZS s.heap z TI TO (rawInt T) f) (hT : s.heap.get? T = some oT) (hTI : IsTupOf2 s.heap TI (.ref i1) (.ref i2)) (st1 : St1 m s.heap) (st2 : St2 m s.heap)
    (hE : ∀ h' tk e, (∀ c o, c ≠ z → c ≠ i1 → c ≠ i2 → s.heap.get? c = some o → h'.get? c = some o) → (∃ o, h'.get? e = some o ∧ o.cls = .type "StopIteration") → E (.ref e) { s with heap := h', toks := tk }) :
    wpAny (model prog w) A (Builtin.«zip.__next__» ⟨[.ref z], []⟩) Q E s := by
  obtain ⟨hp, g, d, tk0, os⟩ := s
  show wpAny _ _ (field (.ref z) 2 >>= _) _ _ _
  refine wpAny_bind (wpAny_field hz rfl (x := .bool true) rfl ?_)
  show wpAny _ _ (field (.ref z) 3 >>= _) _ _ _
  refine wpAny_bind (wpAny_field hz rfl (x := .ref TI) rfl ?_)
  refine wpAny_bind (wpAny_seqItems hTI rfl ?_)
  show wpAny _ _ (Builtin.SmallTypes.ownedTupleIsFree (.ref z) >>= _) _ _ _
  refine wpAny_bind (heldS (s := ⟨hp, g, d, tk0, os⟩) hz hT fun g0 hz0 hs0 => ?_)
  replace hs0 : Heap.SameBut z hp g0 := hs0
  simp only [Bool.false_eq_true, if_false]
  refine wpAny_bind ?_
  rw [← Array.forIn_toList]
  simp only [List.forIn_cons, List.forIn_nil]
  refine wpAny_bind (wpAny_bind (wpAny_holding ?_))
  show wpAny _ _ (Builtin.SmallTypes.nextOrEnd (.ref i1)) _ _ ⟨g0, g, d, tk0, os⟩
  refine nx_done D1 (D1.over st1 hs0 S.zf1) fun p1 hp1 => ?_
  replace hp1 : Heap.ExtBut i1 g0 p1 := hp1
  refine wpAny_bind ?_
  show wpAny _ _ (do
    for (it, j) in (([Value.ref i1, Value.ref i2] : List Value).drop 1).zipIdx 1 do
      if (← Builtin.SmallTypes.nextOrEnd it).isSome then
        rule "zip.__next__.longer"; raiseError "ValueError" _
    rule "zip.__next__.all-ended"; Builtin.SmallTypes.stopIteration) _ _ ⟨p1, g, d, tk0, os⟩
  simp only [List.drop_succ_cons, List.drop_zero, List.zipIdx_cons, List.zipIdx_nil, List.forIn_cons, List.forIn_nil]
  refine wpAny_bind ?_
  refine wpAny_bind (wpAny_bind (nx_done (s := ⟨p1, g, d, tk0, os⟩) D2 (overX D2 (D2.over st2 hs0 S.zf2) hp1 S.sep1_2) fun p2 hp2 => ?_))
  replace hp2 : Heap.ExtBut i2 p1 p2 := hp2
  simp only [Option.isSome_none, Bool.false_eq_true, if_false]
  refine wpAny_pure (wpAny_pure ?_)
  refine wpAny_bind (wpAny_rule (stop_raised (s := ⟨p2, g, d, tk0, os⟩) hh fun h' e hk he => ?_))
  exact hE h' tk0 e (fun c o cz c1 c2 x => hk _ _ (hp2 _ _ c2 (hp1 _ _ c1 (hs0.extBut _ _ cz x)))) he
end
/-- a zip, strict: false -/
abbrev IsZP (h : Heap) (z TI TO : Addr) (f0 : Value) (f : Bool) : Prop := h.get? z = some { cls := .type "zip", dict := none, data := .fields #[f0, .bool f, .bool false, .ref TI, .ref TO], slots := #[] }
section
variable {prog : Program} {w : World} {A : Around} {E : Value → Shared → Prop} {s : Shared}
theorem goP {elts : List Expr} {x1 : Nat} {pos : Pos} {z TI TO T : Addr} {f : Bool} {Q : Unit → Shared → Prop} (hz : IsZP s.heap z TI TO (rawInt T) f) (hQ : ∀ h', IsZP h' z TI TO .none f → Heap.SameBut z s.heap h' → Q () { s with heap := h' }) :
    wpAny (model prog w) A (letOwnedTupleGo (.Tuple elts x1 pos) (.ref z) (.ref T)) Q E s := by
  unfold letOwnedTupleGo
  refine wpAny_bind (wpAny_load hz ?_)
  show wpAny _ _ (if (["enumerate", "zip", "dict_itemiterator", "dict_reverseitemiterator", "odict_iterator", "itertools.zip_longest", "itertools.pairwise"].contains "zip" &&
      (#[rawInt T, .bool f, .bool false, .ref TI, .ref TO] : Array Value)[0]? == some (rawInt T)) = true then _ else _) Q E s
  rw [if_pos (by simp)]
  refine wpAny_bind (wpAny_rule ?_)
  show wpAny _ _ (setField (.ref z) 0 .none) Q E s
  exact wpAny_setField_rec hz (by simp) fun h' hz' hs' => hQ h' hz' hs'
theorem iterP {z TI TO : Addr} {f0 : Value} {f : Bool} {Q : Value → Shared → Prop} (hz : IsZP s.heap z TI TO f0 f) (h : Q (.ref z) s) : wpAny (model prog w) A (pyIter (.ref z)) Q E s := by
  have hT : s.TypeIs (.ref z) "zip" := ⟨_, hz, rfl⟩
  refine wpAny_pyIter_slot hT F.slot_zip_iter (wpAny_call_entry F.slot_zip_iter hT F.entry_zip_iter ?_ (F.args_zip_iter_1 _))
  show wpAny _ _ (ret (.ref z)) _ _ s
  exact wpAny_pure ⟨_, rfl, "zip", _, hT, F.slot_zip_next.lookup, h⟩
end
section
variable {prog : Program} {w : World} {A : Around} {E : Value → Shared → Prop} {s : Shared} {z TI TO i1 i2 : Addr} {fp1 fp2 : List Addr} {m i : Nat} {P1 P2 : Nat → Value → Prop} {St1 St2 : Nat → Heap → Prop} {a1 a2 : Value} {f : Bool}
theorem zP2_item {Q : Value → Shared → Prop} (S : ZipSep2 z TI TO i1 i2 fp1 fp2) (D1 : Draws prog w A i1 fp1 m P1 St1) (D2 : Draws prog w A i2 fp2 m P2 St2)
    (hz : IsZP s.heap z TI TO .none f) (hTI : IsTupOf2 s.heap TI (.ref i1) (.ref i2)) (hTO : IsTupOf2 s.heap TO a1 a2) (st1 : St1 i s.heap) (st2 : St2 i s.heap) (hlt : i < m)
    (hQ : ∀ x1 x2 h' tk, P1 i x1 → P2 i x2 → IsZP h' z TI TO (rawInt s.heap.objs.size) false → IsTupOf2 h' TO x1 x2 → St1 (i + 1) h' → St2 (i + 1) h' → IsTupOf2 h' s.heap.objs.size x1 x2 → h'.objs.size = s.heap.objs.size + 1 →
      (∀ c o, c ≠ z → c ≠ TO → c ≠ i1 → c ≠ i2 → s.heap.get? c = some o → h'.get? c = some o) → Q (.ref s.heap.objs.size) { s with heap := h', toks := tk }) :
    wpAny (model prog w) A (Builtin.«zip.__next__» ⟨[.ref z], []⟩) (fun fin s' => ∃ v, fin = .done (.ret v) ∧ Q v s') E s := by
  obtain ⟨hp, g, d, tk0, os⟩ := s
  show wpAny _ _ (field (.ref z) 2 >>= _) _ _ _
  refine wpAny_bind (wpAny_field hz rfl (x := .bool false) rfl ?_)
  show wpAny _ _ (field (.ref z) 3 >>= _) _ _ _
  refine wpAny_bind (wpAny_field hz rfl (x := .ref TI) rfl ?_)
  refine wpAny_bind (wpAny_seqItems hTI rfl ?_)
  show wpAny _ _ (Builtin.SmallTypes.ownedTupleIsFree (.ref z) >>= _) _ _ _
  refine wpAny_bind ?_
  unfold Builtin.SmallTypes.ownedTupleIsFree
  refine wpAny_bind (wpAny_field hz rfl (x := .none) rfl (wpAny_pure ?_))
  simp only [if_true]
  refine wpAny_bind (wpAny_rule ?_)
  refine wpAny_bind (wpAny_field hz rfl (x := .ref TO) rfl ?_)
  refine wpAny_bind (wpAny_setField_rec hz (by simp) fun g0 hz0 hs0 => ?_)
  replace hz0 : IsZP g0 z TI TO .ellipsis f := hz0
  replace hs0 : Heap.SameBut z hp g0 := hs0
  refine wpAny_bind ?_
  simp only [List.zipIdx_cons, List.zipIdx_nil, List.forIn_cons, List.forIn_nil]
  refine wpAny_bind (wpAny_bind (wpAny_onRaise ?_))
  show wpAny _ _ (Builtin.SmallTypes.nextOf (.ref i1) >>= _) _ _ ⟨g0, g, d, tk0, os⟩
  refine wpAny_bind (D1.item i _ _ _ hlt (D1.over st1 hs0 S.zf1) fun x1 p1 tk1 hx1 sn1 hp1 => wpAny_pure ?_)
  replace hp1 : Heap.SameBut i1 g0 p1 := hp1
  have hU1 : IsTupOf2 p1 TO a1 a2 := hp1.extBut _ _ S.Ti1 (hs0.extBut _ _ S.TOz hTO)
  refine wpAny_bind (wpAny_seqItems (s := ⟨p1, g, d, tk1, os⟩) hU1 rfl ?_)
  refine wpAny_bind (updateSeq_IsTupOf2 (s := ⟨p1, g, d, tk1, os⟩) hU1 fun g1 hT1 hs1 => ?_)
  replace hT1 : IsTupOf2 g1 TO x1 a2 := hT1
  replace hs1 : Heap.SameBut TO p1 g1 := hs1
  refine wpAny_bind (wpAny_letGo (wpAny_pure ?_))
  refine wpAny_bind (wpAny_bind (wpAny_onRaise ?_))
  show wpAny _ _ (Builtin.SmallTypes.nextOf (.ref i2) >>= _) _ _ ⟨g1, g, d, tk1, os⟩
  refine wpAny_bind (D2.item i _ _ _ hlt (D2.over (D2.over (D2.over st2 hs0 S.zf2) hp1 S.sep1_2) hs1 S.Tf2) fun x2 p2 tk2 hx2 sn2 hp2 => wpAny_pure ?_)
  replace hp2 : Heap.SameBut i2 g1 p2 := hp2
  have hU2 : IsTupOf2 p2 TO x1 a2 := hp2.extBut _ _ S.Ti2 hT1
  refine wpAny_bind (wpAny_seqItems (s := ⟨p2, g, d, tk2, os⟩) hU2 rfl ?_)
  refine wpAny_bind (updateSeq_IsTupOf2 (s := ⟨p2, g, d, tk2, os⟩) hU2 fun g2 hT2 hs2 => ?_)
  replace hT2 : IsTupOf2 g2 TO x1 x2 := hT2
  replace hs2 : Heap.SameBut TO p2 g2 := hs2
  refine wpAny_bind (wpAny_letGo (wpAny_pure (wpAny_pure ?_)))
  refine wpAny_bind (wpAny_seqItems (s := ⟨g2, g, d, tk2, os⟩) hT2 rfl ?_)
  refine wpAny_bind (wpAny_newTuple ?_)
  have hsz : g2.objs.size = hp.objs.size := by rw [hs2.1, hp2.1, hs1.1, hp1.1, hs0.1]
  have hzz : IsZP g2 z TI TO .ellipsis f := hs2.extBut _ _ S.TOz.symm (hp2.extBut _ _ S.zi2 (hs1.extBut _ _ S.TOz.symm (hp1.extBut _ _ S.zi1 (hz0))))
  have hkk : ∀ c o, c ≠ z → c ≠ TO → c ≠ i1 → c ≠ i2 → hp.get? c = some o → g2.get? c = some o := fun c o cz cT c1 c2 e => hs2.extBut _ _ cT (hp2.extBut _ _ c2 (hs1.extBut _ _ cT (hp1.extBut _ _ c1 (hs0.extBut _ _ cz e))))
  have hj1 : St1 (i + 1) g2 := D1.over (D1.over (D1.over sn1 hs1 S.Tf1) hp2 S.sep2_1) hs2 S.Tf1
  have hj2 : St2 (i + 1) g2 := D2.over sn2 hs2 S.Tf2
  have hzlt : z < g2.objs.size := Heap.lt_size hzz
  show wpAny _ _ (Builtin.SmallTypes.ownedTupleHandOut (.ref z) (.ref g2.objs.size) >>= _) _ _ ⟨g2.push { cls := .type "tuple", data := .seq #[x1, x2] }, g, d, tk2, os⟩
  refine wpAny_bind ?_
  unfold Builtin.SmallTypes.ownedTupleHandOut
  have hz6 : IsZP (g2.push { cls := .type "tuple", data := .seq #[x1, x2] }) z TI TO .ellipsis f := Heap.get?_push_of_some _ hzz
  refine wpAny_bind (wpAny_setField_rec hz6 (by simp) fun h7 hz7 hs7 => ?_)
  replace hz7 : IsZP h7 z TI TO (rawInt g2.objs.size) f := hz7
  refine wpAny_setField_rec hz7 (by simp) fun h8 hz8 hs8 => ?_
  replace hz8 : IsZP h8 z TI TO (rawInt g2.objs.size) false := hz8
  replace hs7 : Heap.SameBut z (g2.push { cls := .type "tuple", data := .seq #[x1, x2] }) h7 := hs7
  replace hs8 : Heap.SameBut z h7 h8 := hs8
  have up : ∀ c o, c ≠ z → g2.get? c = some o → h8.get? c = some o := fun c o c1 e => hs8.extBut _ _ c1 (hs7.extBut _ _ c1 (Heap.get?_push_of_some _ e))
  have hT8 : IsTupOf2 h8 g2.objs.size x1 x2 := hs8.extBut _ _ (Nat.ne_of_gt hzlt) (hs7.extBut _ _ (Nat.ne_of_gt hzlt) (Heap.get?_push_size _ rfl))
  have hz9 : h8.objs.size = g2.objs.size + 1 := by rw [hs8.1, hs7.1, Heap.size_push]
  rw [hsz] at hz8 hT8 hz9
  refine wpAny_pure ⟨_, rfl, ?_⟩
  show Q (.ref g2.objs.size) ⟨h8, g, d, tk2, os⟩
  rw [hsz]
  exact hQ x1 x2 h8 tk2 hx1 hx2 hz8 (up _ _ S.TOz hT2) (D1.frame _ _ _ hj1 fun b hb o e => up b o (fun q => S.zf1 (q ▸ hb)) e) (D2.frame _ _ _ hj2 fun b hb o e => up b o (fun q => S.zf2 (q ▸ hb)) e) hT8 hz9 fun c o cz cT c1 c2 e => up c o cz (hkk c o cz cT c1 c2 e)
theorem zP2_end {Q : Fin → Shared → Prop} (hh : A.handled = none) (S : ZipSep2 z TI TO i1 i2 fp1 fp2) (D1 : Draws prog w A i1 fp1 m P1 St1) (D2 : Draws prog w A i2 fp2 m P2 St2)
    (hz : IsZP s.heap z TI TO .none f) (hTI : IsTupOf2 s.heap TI (.ref i1) (.ref i2)) (st1 : St1 m s.heap) (st2 : St2 m s.heap)
    (hE : ∀ h' tk e, (∀ c o, c ≠ z → c ≠ i1 → c ≠ i2 → s.heap.get? c = some o → h'.get? c = some o) → (∃ o, h'.get? e = some o ∧ o.cls = .type "StopIteration") → E (.ref e) { s with heap := h', toks := tk }) :
    wpAny (model prog w) A (Builtin.«zip.__next__» ⟨[.ref z], []⟩) Q E s := by
  obtain ⟨hp, g, d, tk0, os⟩ := s
  show wpAny _ _ (field (.ref z) 2 >>= _) _ _ _
  refine wpAny_bind (wpAny_field hz rfl (x := .bool false) rfl ?_)
  show wpAny _ _ (field (.ref z) 3 >>= _) _ _ _
  refine wpAny_bind (wpAny_field hz rfl (x := .ref TI) rfl ?_)
  refine wpAny_bind (wpAny_seqItems hTI rfl ?_)
  show wpAny _ _ (Builtin.SmallTypes.ownedTupleIsFree (.ref z) >>= _) _ _ _
  refine wpAny_bind ?_
  unfold Builtin.SmallTypes.ownedTupleIsFree
  refine wpAny_bind (wpAny_field hz rfl (x := .none) rfl (wpAny_pure ?_))
  simp only [if_true]
  refine wpAny_bind (wpAny_rule ?_)
  refine wpAny_bind (wpAny_field hz rfl (x := .ref TO) rfl ?_)
  refine wpAny_bind (wpAny_setField_rec hz (by simp) fun g0 hz0 hs0 => ?_)
  replace hz0 : IsZP g0 z TI TO .ellipsis f := hz0
  replace hs0 : Heap.SameBut z hp g0 := hs0
  refine wpAny_bind ?_
  simp only [List.zipIdx_cons, List.zipIdx_nil, List.forIn_cons, List.forIn_nil]
  refine wpAny_bind (wpAny_bind (wpAny_onRaise ?_))
  show wpAny _ _ (Builtin.SmallTypes.nextOf (.ref i1) >>= _) _ _ ⟨g0, g, d, tk0, os⟩
  refine wpAny_bind (D1.done ⟨g0, g, d, tk0, os⟩ _ _ (D1.over st1 hs0 S.zf1) fun q e hq he => ?_)
  replace hq : Heap.ExtBut i1 g0 q := hq
  obtain ⟨oe, hoe, hce⟩ := he
  replace hoe : q.get? e = some oe := hoe
  have hzq : IsZP q z TI TO .ellipsis f := hq _ _ S.zi1 hz0
  have hez : e ≠ z := fun x => by subst x; rw [hzq] at hoe; cases hoe; simp at hce
  refine wpAny_setField_rec (s := ⟨q, g, d, tk0, os⟩) hzq (by simp) fun q' _ hq' => ?_
  replace hq' : Heap.SameBut z q q' := hq'
  exact hE q' tk0 e (fun c o cz c1 c2 x => hq'.extBut _ _ cz (hq _ _ c1 (hs0.extBut _ _ cz x))) ⟨oe, hq'.extBut _ _ hez hoe, hce⟩
end
end DZ
set_option Elab.async false
set_option linter.all false
set_option maxRecDepth 100000
set_option maxHeartbeats 4000000
set_option autoImplicit false
namespace DZ
open PySem
open PySem.Sem (wp)
theorem tcS2 (a b c : Value) : checkTypeCall "zip" ⟨[a, b], [(Str.ofString "strict", c)]⟩ = pure () := by kernel_rfl
theorem ncS2 (a b c : Value) : checkBuiltinCall "zip.__new__" ⟨[.type "zip", a, b], [(Str.ofString "strict", c)]⟩ = pure () := by kernel_rfl
theorem ioS2 (o a b c : Value) : argsOk "object.__init__" ⟨[o, a, b], [(Str.ofString "strict", c)]⟩ := by unfold argsOk; kernel_rfl
abbrev szT2 (h : Heap) (o1 o2 : Obj) : Heap := ((h.push o1).push o2).push { cls := .type "tuple", data := .seq #[.ref h.objs.size, .ref (h.push o1).objs.size] }
abbrev szO2 (h : Heap) (o1 o2 : Obj) : Heap := (szT2 h o1 o2).push { cls := .type "tuple", data := .seq #[.none, .none] }
abbrev szZ2 (h : Heap) (o1 o2 : Obj) : Heap := (szO2 h o1 o2).push { cls := .type "zip", data := .fields #[.none, .bool false, .bool true, .ref ((h.push o1).push o2).objs.size, .ref (szT2 h o1 o2).objs.size] }
theorem meetsS2 {v1 v2 : Value} {o1 o2 : Obj} {H1 H2 : Heap → Prop} (B1 : Begins v1 o1 H1) (B2 : Begins v2 o2 H2) :
    Meets (Builtin.«zip.__new__» ⟨[.type "zip", v1, v2], [(Str.ofString "strict", .bool true)]⟩) (fun _ R s => (H1 s.heap ∧ H2 s.heap) ∧
      R (.ok (.ret (.ref (szO2 s.heap o1 o2).objs.size))) { s with heap := szZ2 s.heap o1 o2 }) :=
  .of_wp fun prog w A R s h => by
    obtain ⟨hp, g, d, tk, os⟩ := s; obtain ⟨⟨h1, h2⟩, h⟩ := h
    have hsub := sub_zip
    have q1 : ∀ {A' : Around} {E : Value → Shared → Prop} {Q : Value → Shared → Prop}, Q (.ref hp.objs.size) ⟨(hp.push o1), g, d, tk, os⟩ → wpAny (model prog w) A' (pyIter v1) Q E ⟨hp, g, d, tk, os⟩ :=
      fun q => B1.iter prog w _ _ ⟨hp, g, d, tk, os⟩ _ (B1.keeps _ _ h1 fun b o' e => e) q
    have q2 : ∀ {A' : Around} {E : Value → Shared → Prop} {Q : Value → Shared → Prop}, Q (.ref (hp.push o1).objs.size) ⟨((hp.push o1).push o2), g, d, tk, os⟩ → wpAny (model prog w) A' (pyIter v2) Q E ⟨(hp.push o1), g, d, tk, os⟩ :=
      fun q => B2.iter prog w _ _ ⟨(hp.push o1), g, d, tk, os⟩ _ (B2.keeps _ _ h2 fun b o' e => (Heap.get?_push_of_some _ e)) q
    have e1 : (Str.ofString "strict" == ("strict" : Str)) = true := by decide +kernel
    have e2 : (Str.ofString "strict" != ("strict" : Str)) = false := by decide +kernel
    have e4 : (("strict" : Str) == Str.ofString "strict") = true := by decide +kernel
    wp_walk using q1, q2
    exact ⟨_, rfl, h⟩
section
variable {prog : Program} {w : World} {A : Around} {E : Value → Shared → Prop} {s : Shared}
theorem beginsS2 {v1 v2 : Value} {o1 o2 : Obj} {H1 H2 : Heap → Prop} {Q : Value → Shared → Prop} (B1 : Begins v1 o1 H1) (B2 : Begins v2 o2 H2) (h1 : H1 s.heap) (h2 : H2 s.heap)
    (h : ∀ h', IsZS h' (s.heap.objs.size + 4) (s.heap.objs.size + 2) (s.heap.objs.size + 3) .none false → IsTupOf2 h' (s.heap.objs.size + 2) (.ref s.heap.objs.size) (.ref (s.heap.objs.size + 1)) →
      IsTupOf2 h' (s.heap.objs.size + 3) .none .none → h'.get? s.heap.objs.size = some o1 → h'.get? (s.heap.objs.size + 1) = some o2 → h'.objs.size = s.heap.objs.size + 5 →
      (∀ c o, s.heap.get? c = some o → h'.get? c = some o) → Q (.ref (s.heap.objs.size + 4)) { s with heap := h' }) :
    wpAny (model prog w) A (call (.type "zip") [v1, v2] [(Str.ofString "strict", .bool true)]) Q E s := by
  refine callType_newKw F.called_zip (by decide) (tcS2 _ _ _) (ncS2 _ _ _) (fun obj => ioS2 obj _ _ _) F.entry_zip_new (meetsS2 B1 B2) ⟨⟨h1, h2⟩, ?_⟩
  have z1 : (s.heap.push o1).objs.size = s.heap.objs.size + 1 := by rw [Heap.size_push]
  have z2 : ((s.heap.push o1).push o2).objs.size = s.heap.objs.size + 2 := by rw [Heap.size_push, z1]
  have zT : (szT2 s.heap o1 o2).objs.size = s.heap.objs.size + 3 := by rw [Heap.size_push, z2]
  have zO : (szO2 s.heap o1 o2).objs.size = s.heap.objs.size + 4 := by rw [Heap.size_push, zT]
  have zZ : (szZ2 s.heap o1 o2).objs.size = s.heap.objs.size + 5 := by rw [Heap.size_push, zO]
  have gZ : (szZ2 s.heap o1 o2).get? (szO2 s.heap o1 o2).objs.size = some { cls := .type "zip", data := .fields #[.none, .bool false, .bool true, .ref ((s.heap.push o1).push o2).objs.size, .ref (szT2 s.heap o1 o2).objs.size] } := Heap.get?_push_size _ rfl
  have gO : (szZ2 s.heap o1 o2).get? (szT2 s.heap o1 o2).objs.size = some { cls := .type "tuple", data := .seq #[.none, .none] } := Heap.get?_push_of_some _ (Heap.get?_push_size _ rfl)
  have gT : (szZ2 s.heap o1 o2).get? ((s.heap.push o1).push o2).objs.size = some { cls := .type "tuple", data := .seq #[.ref s.heap.objs.size, .ref (s.heap.push o1).objs.size] } := Heap.get?_push_of_some _ (Heap.get?_push_of_some _ (Heap.get?_push_size _ rfl))
  have g1 : (szZ2 s.heap o1 o2).get? s.heap.objs.size = some o1 := (Heap.get?_push_of_some _ (Heap.get?_push_of_some _ (Heap.get?_push_of_some _ (Heap.get?_push_of_some _ (Heap.get?_push_size _ B1.free)))))
  have g2 : (szZ2 s.heap o1 o2).get? (s.heap.push o1).objs.size = some o2 := (Heap.get?_push_of_some _ (Heap.get?_push_of_some _ (Heap.get?_push_of_some _ (Heap.get?_push_size _ B2.free))))
  rw [zO, zT, z2] at gZ
  rw [zT] at gO
  rw [z2, z1] at gT
  rw [z1] at g2
  show _ ∧ _
  rw [zO]
  exact ⟨⟨_, gZ, rfl⟩, h _ gZ gT gO g1 g2 zZ fun c o e => (Heap.get?_push_of_some _ (Heap.get?_push_of_some _ (Heap.get?_push_of_some _ (Heap.get?_push_of_some _ (Heap.get?_push_of_some _ e)))))⟩
end
def IterAt (t : Bool) (h : Heap) (it l : Addr) (i : Nat) : Prop := match t with
  | true => h.IsTupleIter it l i
  | false => h.IsListIter it l i
def ItemsAt (t : Bool) (h : Heap) (l : Addr) (items : Array Value) : Prop := match t with
  | true => h.IsTuple l items
  | false => h.IsList l items
theorem drawsB {prog : Program} {w : World} {A : Around} (t : Bool) (hh : A.handled = none) (it l : Addr) (hne : l ≠ it) (items : Array Value) : Draws prog w A it [it, l] items.size (fun i v => items[i]? = some v) (fun i h => IterAt t h it l i ∧ ItemsAt t h l items) := by
  cases t with
  | true => exact Draws.tuple hh it l hne items
  | false => exact Draws.list hh it l hne items
def itObj (t : Bool) (l : Addr) : Obj := match t with
  | true => { cls := .type "tuple_iterator", data := .fields #[.ref l, .int 0 0] }
  | false => { cls := .type "list_iterator", data := .fields #[.ref l, .int 0 0] }
theorem beginsB (t : Bool) (l : Addr) (items : Array Value) : Begins (.ref l) (itObj t l) fun h => ItemsAt t h l items := by
  cases t with
  | true => exact begins_tuple l items
  | false => exact begins_list l items
theorem IterAt.start {t : Bool} {h : Heap} {it l : Addr} (e : h.get? it = some (itObj t l)) : IterAt t h it l 0 := by
  cases t with
  | true => exact ⟨_, e, rfl, rfl⟩
  | false => exact ⟨_, e, rfl, rfl⟩
theorem IterAt.move {t : Bool} {h h' : Heap} {it l : Addr} {i : Nat} (x : IterAt t h it l i) (k : ∀ o, h.get? it = some o → h'.get? it = some o) : IterAt t h' it l i := by
  cases t with
  | true => exact Heap.IsTupleIter.at x k
  | false => exact Heap.IsListIter.at x k
theorem IterAt.obj {t : Bool} {h : Heap} {it l : Addr} {i : Nat} (x : IterAt t h it l i) : ∃ o, h.get? it = some o ∧ ∀ v, o.data ≠ .cell v := by
  cases t with
  | true =>
    obtain ⟨o, e, _, d⟩ := x
    exact ⟨o, e, fun v q => by rw [d] at q; cases q⟩
  | false =>
    obtain ⟨o, e, _, d⟩ := x
    exact ⟨o, e, fun v q => by rw [d] at q; cases q⟩
theorem ItemsAt.lt {t : Bool} {h : Heap} {l : Addr} {items : Array Value} (x : ItemsAt t h l items) : l < h.objs.size := by
  cases t with
  | true => obtain ⟨o, e, _⟩ := x; exact Heap.lt_size e
  | false => obtain ⟨o, e, _⟩ := x; exact Heap.lt_size e
end DZ
namespace DL
open PySem PySem.Spec PyProof.Rows L2
theorem seqB_at {X : Cx} {pins : List (Addr × Obj)} {s : L2.St} {H : Hp} {sh : Shared} {t : Bool} {a : Addr} {xs : List V} (I : Inv X pins s H sh) (h : SqB X.K t H a xs) : ∃ its : List Value, Vals xs its ∧ DZ.ItemsAt t sh.heap a its.toArray ∧ xs.length ≤ sizeLine := by
  cases t with
  | true =>
    obtain ⟨its, r, p, z⟩ := I.tuple h
    exact ⟨its, r, p, z⟩
  | false =>
    obtain ⟨its, r, p, z⟩ := I.list h
    exact ⟨its, r, p.isList, z⟩
theorem seqB_inj {X : Cx} {pins : List (Addr × Obj)} {s : L2.St} {H : Hp} {sh : Shared} {t : Bool} {a : Addr} {xs ys : List V} (I : Inv X pins s H sh) (h : SqB X.K t H a xs) (h' : SqB X.K t H a ys) : xs = ys := by
  cases t with
  | true => exact I.tuple_inj h h'
  | false => exact I.list_inj h h'
theorem same_b {K : PySem.W.Frag} {t : Bool} {H H' : Hp} {a : Addr} {xs : List V} (e : Same H H') (h : SqB K t H a xs) : SqB K t H' a xs := by
  cases t with
  | true => exact same_t e h
  | false => exact same_l e h
section
variable {M : Model} {A : Around} {E : Value → Shared → Prop} {s : Shared} {env : Env}
theorem cw_type_kw {pos : Pos} {T : String} {e : Expr} {rest : List Expr} {kws : List Keyword} {Q : Value → Shared → Prop}
    (h : wpAny M A (spliced (backTo pos (starEach (e :: rest) env))) (fun vs s₁ => wpAny M A (evalAll ((backToKw pos (keywordEach kws env)).map (·.2)))
      (fun kvs s₂ => wpAny M A (call (.type T) vs (((backToKw pos (keywordEach kws env)).filterMap (·.1)).zip kvs)) Q E s₂) E s₁) E s)
    (he : backTo pos (starEach (e :: rest) env) = (false, eval e env) :: backTo pos (starEach rest env)) (hplain : (backTo pos (starEach (e :: rest) env)).any (·.1) = false)
    (hall : (backToKw pos (keywordEach kws env)).all (·.1.isSome) = true) (hkw : (backToKw pos (keywordEach kws env)).any (·.1.isNone) = false) :
    wpAny M A (callWith pos (.type T) [] (backTo pos (starEach (e :: rest) env)) (backToKw pos (keywordEach kws env))) Q E s := by
  unfold callWith
  have h2 : wpAny M A (evalArgs (.type T) true (backTo pos (starEach (e :: rest) env)) (backToKw pos (keywordEach kws env))) (fun a s₁ => wpAny M A (call (.type T) ([] ++ a.pos) a.kw) Q E s₁) E s := by
    rw [he] at h ⊢
    exact evalArgs_kwB hall h
  refine wpAny_bind (wpAny_holding (wpAny_mono h2 (fun a s₁ h₁ => wpAny_bind (wpAny_standAt ?_)) fun _ _ x => x))
  simp only [hplain, hkw, Bool.or_false]
  refine wpAny_bind (wpAny_pure ?_)
  exact wpAny_bind (wpAny_mono h₁ (fun r s₂ hr => wpAny_bind (wpAny_holding (wpAny_point (wpAny_pure hr)))) fun _ _ x => x)
end
/-- 2 sources of one length, the items in new tuples -/
def ItZ2 (K : PySem.W.Frag) (t1 : Bool) (a1 : Addr) (t2 : Bool) (a2 : Addr) : It :=
  ⟨fun i H => ∃ (xs1 xs2 : List V) (x1 x2 : V) (n : Nat), SqB K t1 H a1 xs1 ∧ SqB K t2 H a2 xs2 ∧ xs1.length = n ∧ xs2.length = n ∧ xs1[i]? = some x1 ∧ xs2[i]? = some x2,
    fun i H v H' => ∃ (T : Addr) (x1 x2 : V), v = .ref T ∧ H T = none ∧ H' = upd H T (.tup [x1, x2]) ∧ (∀ xs, SqB K t1 H a1 xs → xs[i]? = some x1) ∧ (∀ xs, SqB K t2 H a2 xs → xs[i]? = some x2),
    fun i H => ∃ xs1 xs2 : List V, SqB K t1 H a1 xs1 ∧ SqB K t2 H a2 xs2 ∧ xs1.length = i ∧ xs2.length = i⟩
theorem turnP2 {P : Program} {w : World} {K : PySem.W.Frag} {elts : List Expr} {kk : Nat} {tpos : Pos} {t1 t2 : Bool} {a1 a2 z TI TO i1 i2 : Addr} (D : ZipSep2 z TI TO i1 i2 [i1, a1] [i2, a2]) (ne1 : a1 ≠ i1) (ne2 : a2 ≠ i2) :
    Turn P w K (.Tuple elts kk tpos) (ItZ2 K t1 a1 t2 a2) [z, TI, TO, i1, i2] z (fun i h => DZ.IsZP h z TI TO .none false ∧ IsTupOf2 h TI (.ref i1) (.ref i2) ∧ (∃ b1 b2, IsTupOf2 h TO b1 b2) ∧ DZ.IterAt t1 h i1 a1 i ∧ DZ.IterAt t2 h i2 a2 i) where
  mem := by simp
  obj := fun i h st c hc => by
    obtain ⟨hz, hTI, ⟨b1, b2, hTO⟩, h1, h2⟩ := st
    have e' : c = z ∨ c = TI ∨ c = TO ∨ c = i1 ∨ c = i2 := by simpa using hc
    rcases e' with q | q | q | q | q
    · rw [q]; exact ⟨_, hz, fun v q => nomatch q⟩
    · rw [q]; exact ⟨_, hTI, fun v q => nomatch q⟩
    · rw [q]; exact ⟨_, hTO, fun v q => nomatch q⟩
    · rw [q]; exact h1.obj
    · rw [q]; exact h2.obj
  keep := fun i h h' st k => by
    obtain ⟨hz, hTI, ⟨b1, b2, hTO⟩, h1, h2⟩ := st
    exact ⟨k z (by simp) _ hz, k TI (by simp) _ hTI, ⟨b1, b2, k TO (by simp) _ hTO⟩, h1.move fun o q => k i1 (by simp) o q, h2.move fun o q => k i2 (by simp) o q⟩
  item := by
    intro X hP hw hK hc i pins s σ H E I hf st hg
    subst hP hw hK
    obtain ⟨hz, hTI, ⟨b1, b2, hTO⟩, h1, h2⟩ := st
    obtain ⟨xs1, xs2, x1, x2, n, hq1, hq2, el1, el2, hx1, hx2⟩ := hg
    obtain ⟨its1, rv1, p1, _⟩ := seqB_at I hq1
    obtain ⟨u1, hu1, ru1⟩ := rv1.get hx1
    have sz1 : its1.toArray.size = n := by rw [List.size_toArray, ← rv1.length]; exact el1
    have D1 := DZ.drawsB (prog := X.prog) (w := X.w) (A := X.A.in1) t1 (I.ok.hd hc) i1 a1 ne1 its1.toArray
    rw [sz1] at D1
    obtain ⟨its2, rv2, p2, _⟩ := seqB_at I hq2
    obtain ⟨u2, hu2, ru2⟩ := rv2.get hx2
    have sz2 : its2.toArray.size = n := by rw [List.size_toArray, ← rv2.length]; exact el2
    have D2 := DZ.drawsB (prog := X.prog) (w := X.w) (A := X.A.in1) t2 (I.ok.hd hc) i2 a2 ne2 its2.toArray
    rw [sz2] at D2
    have hin : i < n := by
      have := (List.getElem?_eq_some_iff.mp hx1).1
      omega
    have hzl : z < s.heap.objs.size := Heap.lt_size hz
    have hTy : s.TypeIs (.ref z) "zip" := ⟨_, hz, rfl⟩
    unfold pyNext
    refine wpAny_bind (wpAny_attempt (wpAny_callSpecial?_slot (name := Str.ofString "__next__") hTy F.slot_zip_next (wpAny_call_entry F.slot_zip_next hTy F.entry_zip_next
      (DZ.zP2_item D D1 D2 hz hTI hTO ⟨h1, p1⟩ ⟨h2, p2⟩ hin fun w1 w2 h' tk e1 e2 z' TO2 s1 s2 hT hsz hk => ?_) (F.args_zip_next_1 _))))
    have ew1 : w1 = u1 := by
      have z0 : its1.toArray[i]? = some u1 := by simpa using hu1
      exact Option.some.inj (e1.symm.trans z0)
    have ew2 : w2 = u2 := by
      have z0 : its2.toArray[i]? = some u2 := by simpa using hu2
      exact Option.some.inj (e2.symm.trans z0)
    subst ew1 ew2
    refine wpAny_pure ⟨_, rfl, DZ.goP (s := { s with heap := h', toks := tk }) z' fun hz2 z2 sb => ?_⟩
    have hT2 : hz2.get? s.heap.objs.size = some { cls := .type "tuple", data := .seq #[w1, w2] } := (sb.2 _ (Nat.ne_of_gt hzl)).trans hT
    have new : ObjOk X.prog X.w (upd H s.heap.objs.size (.tup [x1, x2])) hz2 s.heap.objs.size (.tup [x1, x2]) :=
      ⟨by show 2 ≤ sizeLine; decide, [w1, w2], .cons ru1 (.cons ru2 (.nil)), ⟨_, hT2, rfl, _, rfl⟩⟩
    have I1 : Inv X pins σ (upd H s.heap.objs.size (.tup [x1, x2])) { s with heap := hz2, toks := tk } :=
      I.turnedNew (t' := tk) (ch := [z, TI, TO, i1, i2]) (fun c o hb q => (sb.2 c (fun q' => hb (by simp [q']))).trans (hk c o (fun q' => hb (by simp [q'])) (fun q' => hb (by simp [q'])) (fun q' => hb (by simp [q'])) (fun q' => hb (by simp [q'])) q)) hf (Nat.le_refl _) new
    refine ⟨.ref s.heap.objs.size, _, I1, rfl, ⟨_, x1, x2, rfl, I.hok.fresh (Nat.le_refl _), rfl, fun l hl => by rw [seqB_inj I hl hq1]; exact hx1, fun l hl => by rw [seqB_inj I hl hq2]; exact hx2⟩, ⟨z2, ?_, ⟨w1, w2, ?_⟩, ?_, ?_⟩, fun c hcm => ?_⟩
    · exact (sb.2 _ D.TIz).trans (hk _ _ D.TIz D.TITO D.TIi1 D.TIi2 hTI)
    · exact (sb.2 _ D.TOz).trans TO2
    · exact s1.1.move fun o q => (sb.2 _ (Ne.symm D.zi1)).trans q
    · exact s2.1.move fun o q => (sb.2 _ (Ne.symm D.zi2)).trans q
    · have hlt : c < s.heap.objs.size := by
        have e' : c = z ∨ c = TI ∨ c = TO ∨ c = i1 ∨ c = i2 := by simpa using hcm
        rcases e' with q | q | q | q | q
        · rw [q]; exact hzl
        · rw [q]; exact Heap.lt_size hTI
        · rw [q]; exact Heap.lt_size hTO
        · rw [q]; obtain ⟨_, e1, _⟩ := h1.obj; exact Heap.lt_size e1
        · rw [q]; obtain ⟨_, e1, _⟩ := h2.obj; exact Heap.lt_size e1
      rw [upd_ne (Nat.ne_of_lt hlt)]
      exact (hf c hcm).1
  done := by
    intro X hP hw hK hc i pins s σ H E I hf st hg
    subst hP hw hK
    obtain ⟨hz, hTI, ⟨b1, b2, hTO⟩, h1, h2⟩ := st
    obtain ⟨xs1, xs2, hq1, hq2, el1, el2⟩ := hg
    obtain ⟨its1, rv1, p1, _⟩ := seqB_at I hq1
    have sz1 : its1.toArray.size = i := by rw [List.size_toArray, ← rv1.length]; exact el1
    have D1 := DZ.drawsB (prog := X.prog) (w := X.w) (A := X.A.in1) t1 (I.ok.hd hc) i1 a1 ne1 its1.toArray
    rw [sz1] at D1
    obtain ⟨its2, rv2, p2, _⟩ := seqB_at I hq2
    have sz2 : its2.toArray.size = i := by rw [List.size_toArray, ← rv2.length]; exact el2
    have D2 := DZ.drawsB (prog := X.prog) (w := X.w) (A := X.A.in1) t2 (I.ok.hd hc) i2 a2 ne2 its2.toArray
    rw [sz2] at D2
    have hTy : s.TypeIs (.ref z) "zip" := ⟨_, hz, rfl⟩
    unfold pyNext
    refine wpAny_bind (wpAny_attempt (wpAny_callSpecial?_slot (name := Str.ofString "__next__") hTy F.slot_zip_next (wpAny_call_entry F.slot_zip_next hTy F.entry_zip_next
      (DZ.zP2_end (A := X.A.in1) (I.ok.hd hc) D D1 D2 hz hTI ⟨h1, p1⟩ ⟨h2, p2⟩ fun h' tk e hk he => ?_) (F.args_zip_next_1 _))))
    obtain ⟨o, ho, hcl⟩ := he
    refine wpAny_bind (wpAny_isInstance (T := "StopIteration") (b := true) ⟨o, ho, hcl⟩ isSubtype_stop ?_)
    refine wpAny_pure ⟨rfl, I.turnedL (t' := tk) (ch := [z, TI, TO, i1, i2]) (fun c o hb q => hk c o (fun q' => hb (by simp [q'])) (fun q' => hb (by simp [q'])) (fun q' => hb (by simp [q'])) q) hf⟩
  self := fun A i s Q E st h => DZ.iterP st.1 h
end DL
set_option Elab.async false
set_option linter.all false
set_option maxRecDepth 100000
set_option maxHeartbeats 4000000
set_option autoImplicit false
namespace DZ
open PySem PySem.Spec PySem.Calls PyProof.Rows PyProof.V L2 PySem.W
theorem len_zip : typeLookup (.type "zip") "__len__" = pure none := by rw [typeLookup_type, builtinLookup_eq_fast]; kernel_rfl
theorem hint_zip : typeLookup (.type "zip") "__length_hint__" = pure none := by rw [typeLookup_type, builtinLookup_eq_fast]; kernel_rfl
section
variable {prog : Program} {w : World} {A : Around} {E : Value → Shared → Prop} {s : Shared}
theorem zhint {z : Addr} (hT : s.TypeIs (.ref z) "zip") {Q : Bool → Shared → Prop} (h : Q true s) : wpAny (model prog w) A (Builtin.List.listLengthHint (.ref z)) Q E s := by
  unfold Builtin.List.listLengthHint
  refine wpAny_bind (wpAny_specialOf hT len_zip ?_)
  refine wpAny_ite_split (fun hab => absurd hab (by decide)) (fun _ => ?_)
  refine wpAny_ite_split (fun hab => absurd hab (by decide)) (fun _ => ?_)
  refine wpAny_bind (wpAny_specialOf hT hint_zip ?_)
  exact wpAny_pure h
end
theorem ItemsAt.move {t : Bool} {h h' : Heap} {l : Addr} {items : Array Value} (x : ItemsAt t h l items) (k : ∀ o, h.get? l = some o → h'.get? l = some o) : ItemsAt t h' l items := by
  cases t with
  | true => exact let ⟨o, ho, r⟩ := (show h.IsTuple l items from x); (show h'.IsTuple l items from ⟨o, k o ho, r⟩)
  | false => exact let ⟨o, ho, r⟩ := (show h.IsList l items from x); (show h'.IsList l items from ⟨o, k o ho, r⟩)
/-- a zip whose items go into the list that is being made at S: each a new tuple -/
structure Yields (prog : Program) (w : World) (A : Around) (z S : Addr) (ch : List Addr) (tps : List (List Value)) (St : Nat → Heap → Prop) : Prop where
  ty : ∀ i h, St i h → ∃ o, h.get? z = some o ∧ o.cls = .type "zip"
  below : ∀ c ∈ ch, c < S
  frame : ∀ i h h', St i h → (∀ b o, b ≠ S → h.get? b = some o → h'.get? b = some o) → St i h'
  iter : ∀ (A : Around) (i : Nat) (s : Shared) (Q : Value → Shared → Prop) (E : Value → Shared → Prop), St i s.heap → Q (.ref z) s → wpAny (model prog w) A (pyIter (.ref z)) Q E s
  item : ∀ (i : Nat) (s : Shared) (Q : Option Value → Shared → Prop) (E : Value → Shared → Prop) (t : List Value), tps[i]? = some t → St i s.heap → S < s.heap.objs.size →
    (∀ h' tk, St (i + 1) h' → h'.get? s.heap.objs.size = some { cls := .type "tuple", data := .seq t.toArray } → h'.objs.size = s.heap.objs.size + 1 → (∀ b o, b ∉ ch → s.heap.get? b = some o → h'.get? b = some o) → Q (some (.ref s.heap.objs.size)) { s with heap := h', toks := tk }) →
    wpAny (model prog w) A (pyNext (.ref z)) Q E s
  done : ∀ (s : Shared) (Q : Option Value → Shared → Prop) (E : Value → Shared → Prop), St tps.length s.heap → (∀ h' tk, (∀ b o, b ∉ ch → s.heap.get? b = some o → h'.get? b = some o) → Q none { s with heap := h', toks := tk }) → wpAny (model prog w) A (pyNext (.ref z)) Q E s
structure Laid (tps : List (List Value)) (lo : Addr) (h : Heap) (as : List Addr) : Prop where
  rise : as.Pairwise (· < ·)
  above : ∀ a ∈ as, lo < a
  tups : ∀ (j : Nat) (a : Addr), as[j]? = some a → ∃ t, tps[j]? = some t ∧ h.get? a = some { cls := .type "tuple", data := .seq t.toArray }
theorem Laid.there {tps : List (List Value)} {lo : Addr} {h : Heap} {as : List Addr} (g : Laid tps lo h as) {a : Addr} (ha : a ∈ as) : a < h.objs.size := by
  obtain ⟨j, hj⟩ := List.mem_iff_getElem?.mp ha
  obtain ⟨_, _, e⟩ := g.tups j a hj
  exact Heap.lt_size e
section
variable {prog : Program} {w : World} {A : Around} {s : Shared} {R : Result → Shared → Prop} {tps : List (List Value)} {z S : Addr} {ch : List Addr} {St : Nat → Heap → Prop}
theorem zl_loop (Y : Yields prog w A.in1 z S ch tps St) (hn : tps.length ≤ sizeLine) (res : Value) {h₁ : Heap} (hz : z ∈ ch)
    (hR : ∀ h' tk acc c as, (∀ b o, b ≠ S → b ∉ ch → h₁.get? b = some o → h'.get? b = some o) → h'.get? S = some { cls := .type "list", dict := none, data := .seq acc c, slots := #[] } → as.length = tps.length → Laid tps S h' as →
      acc.toList = as.map Value.ref → R (.ok (.ret res)) { s with heap := h', toks := tk }) :
    ∀ (k i : Nat) (h : Heap) (tk c : Nat) (acc : Array Value) (as : List Addr), tps.length - i = k → i ≤ tps.length → St i h → (∀ b o, b ≠ S → b ∉ ch → h₁.get? b = some o → h.get? b = some o) →
      h.get? S = some { cls := .type "list", dict := none, data := .seq acc c, slots := #[] } → acc.toList = as.map Value.ref → as.length = i → Laid tps S h as →
      codeAny (model prog w) A (.builtin "list.extend.loop" ⟨[.ref S, .ref z, res], []⟩) R { s with heap := h, toks := tk } := by
  have nS : S ∉ ch := fun q => Nat.lt_irrefl _ (Y.below _ q)
  intro k
  induction k with
  | zero =>
    intro i h tk c acc as hk hi hst hkeep hS hacc hal hG
    have hin : i = tps.length := by omega
    refine codeAny_builtin PySem.F.entry_extend_loop ?_
    rw [Around.under_plainId PySem.F.plain_extend_loop _]
    show wpAny _ A.in1 (pyNext (.ref z) >>= _) _ _ _
    refine wpAny_bind (Y.done { s with heap := h, toks := tk } _ _ (hin ▸ hst) fun h' tk' he => ?_)
    refine wpAny_pure (hR h' tk' acc c as (fun b o h1 h2 e => he b o h2 (hkeep b o h1 h2 e)) (he S _ nS hS) (by omega) ⟨hG.rise, hG.above, fun j a hj => ?_⟩ hacc)
    obtain ⟨t, e1, e3⟩ := hG.tups j a hj
    exact ⟨t, e1, he a _ (fun q => Nat.lt_asymm (hG.above a (List.mem_of_getElem? hj)) (Y.below a q)) e3⟩
  | succ k ih =>
    intro i h tk c acc as hk hi hst hkeep hS hacc hal hG
    have hlt : i < tps.length := by omega
    have hsz : acc.size = i := by rw [← Array.length_toList, hacc, List.length_map, hal]
    have hSl : S < h.objs.size := Heap.lt_size hS
    refine codeAny_builtin PySem.F.entry_extend_loop ?_
    rw [Around.under_plainId PySem.F.plain_extend_loop _]
    show wpAny _ A.in1 (pyNext (.ref z) >>= _) _ _ _
    refine wpAny_bind (Y.item i { s with heap := h, toks := tk } _ _ tps[i] (List.getElem?_eq_getElem hlt) hst hSl fun h' tk' hst' ht hz hkp => ?_)
    dsimp only at ht hz hkp ⊢
    have hS' := hkp S _ nS hS
    have up : ∀ b o, b ≠ S → h'.get? b = some o → (h'.update S (Obj.mapSeq (·.push (Value.ref h.objs.size)))).get? b = some o := fun b o hb e => (Heap.get?_update_other _ _ (Ne.symm hb)).trans e
    show wpAny _ A.in1 (updateSeq S (·.push (Value.ref h.objs.size)) >>= _) _ _ _
    refine wpAny_bind ?_
    refine wpAny_updateSeq hS' rfl (wpAny_pure ⟨plainId_quiet PySem.F.plain_extend_loop _, ih (i + 1) _ tk' _ (acc.push (Value.ref h.objs.size)) (as ++ [h.objs.size]) (by omega) hlt (Y.frame _ _ _ hst' up)
      (fun b o h1 h2 e => up b o h1 (hkp b o h2 (hkeep b o h1 h2 e))) (Heap.get?_update_self _ hS' rfl) (by rw [Array.toList_push, hacc, List.map_append]; rfl) (by rw [List.length_append, hal]; rfl) ⟨?_, ?_, ?_⟩⟩) (by rw [hsz]; omega) (by show (acc.push (Value.ref h.objs.size)).size ≤ sizeLine + 1; rw [Array.size_push, hsz]; omega)
    · refine List.pairwise_append.mpr ⟨hG.rise, List.pairwise_singleton _ _, fun a ha b hb => ?_⟩
      rw [List.mem_singleton.mp hb]
      exact hG.there ha
    · intro a ha
      rcases List.mem_append.mp ha with ha | ha
      · exact hG.above a ha
      · rw [List.mem_singleton.mp ha]; exact hSl
    · intro j b hj
      rcases Nat.lt_trichotomy j as.length with h1 | h1 | h1
      · rw [List.getElem?_append_left h1] at hj
        obtain ⟨t, e1, e3⟩ := hG.tups j b hj
        have hb := hG.above b (List.mem_of_getElem? hj)
        exact ⟨t, e1, up b _ (Nat.ne_of_gt hb) (hkp b _ (fun q => Nat.lt_asymm hb (Y.below b q)) e3)⟩
      · subst h1
        have hb : h.objs.size = b := by simpa using hj
        subst hb
        exact ⟨tps[i], by rw [hal]; exact List.getElem?_eq_getElem hlt, up _ _ (Nat.ne_of_gt hSl) ht⟩
      · have hnone : (as ++ [h.objs.size])[j]? = none := List.getElem?_eq_none (by rw [List.length_append, List.length_singleton]; omega)
        rw [hnone] at hj; cases hj
end
section
variable {prog : Program} {w : World} {A : Around} {E : Value → Shared → Prop} {s : Shared} {tps : List (List Value)} {z S : Addr} {ch : List Addr} {St : Nat → Heap → Prop}
theorem zl_extend {R : Result → Shared → Prop} (Y : Yields prog w A.in1 z S ch tps St) (hn : tps.length ≤ sizeLine) (hz : z ∈ ch) (st : St 0 s.heap) (res : Value) (c₀ : Nat) (hS : s.heap.get? S = some { cls := .type "list", data := .seq #[] c₀ })
    (hR : ∀ h' tk acc c as, (∀ b o, b ≠ S → b ∉ ch → s.heap.get? b = some o → h'.get? b = some o) → h'.get? S = some { cls := .type "list", dict := none, data := .seq acc c, slots := #[] } → as.length = tps.length → Laid tps S h' as →
      acc.toList = as.map Value.ref → R (.ok (.ret res)) { s with heap := h', toks := tk }) :
    wpAny (model prog w) A.in1 (Builtin.List.listExtendWith (.ref S) (.ref z) res)
      (fun fin s' => match fin with | .done f => R (.ok f) s' | .again c' => c'.quiet = true ∧ codeAny (model prog w) A c' R s') (fun e s' => R (.error e) s') s := by
  have hSz : S ≠ z := Ne.symm (Nat.ne_of_lt (Y.below z hz))
  have key : ∀ (h : Heap) (c₁ tk : Nat), (∀ b o, b ≠ S → s.heap.get? b = some o → h.get? b = some o) →
      h.get? S = some { cls := .type "list", data := .seq #[] c₁ } → codeAny (model prog w) A (.builtin "list.extend.loop" ⟨[.ref S, .ref z, res], []⟩) R { s with heap := h, toks := tk } := by
    intro h c₁ tk hk hS₁
    exact zl_loop (s := s) Y hn res (h₁ := s.heap) hz hR tps.length 0 h tk c₁ #[] [] (Nat.sub_zero _) (Nat.zero_le _) (Y.frame _ _ _ st hk) (fun b o hb _ e => hk b o hb e) hS₁ rfl rfl
      ⟨List.Pairwise.nil, (fun _ ha => nomatch ha), (fun j a hj => by simp at hj)⟩
  have hT : s.TypeIs (.ref z) "zip" := Y.ty _ _ st
  unfold Builtin.List.listExtendWith
  refine wpAny_bind (wpAny_typeOf (T := "zip") hT ?_)
  have h1 : Builtin.List.listSameRef (.ref S) (.ref z) = false := by simp [Builtin.List.listSameRef, hSz]
  have h2 : (Value.type "zip" == Value.type "list") = false := by decide
  have h3 : (Value.type "zip" == Value.type "tuple") = false := by decide
  simp only [h1, h2, h3, Bool.or_false, Bool.false_eq_true, if_false]
  refine wpAny_bind (Y.iter _ 0 s _ _ st ?_)
  refine wpAny_bind (wpAny_holding (zhint hT ?_))
  refine wpAny_ite_split (fun _ => ?_) (fun _ => wpAny_pure ⟨plainId_quiet PySem.F.plain_extend_loop _, key _ c₀ _ (fun b o _ e => e) hS⟩)
  refine wpAny_bind (wpAny_rule ?_)
  refine wpAny_bind ?_
  show wpAny _ _ (updateSeq S (·.push .none) >>= fun _ => updateSeq S (·.pop)) _ _ _
  refine wpAny_bind (wpAny_updateSeq hS rfl ?_)
  have hS₂ := Heap.get?_update_self (Obj.mapSeq (·.push Value.none)) hS rfl
  refine wpAny_updateSeq (hz := by seq_fits) hS₂ rfl ?_
  have hS₃ := Heap.get?_update_self (Obj.mapSeq (·.pop)) hS₂ rfl
  refine wpAny_pure ⟨plainId_quiet PySem.F.plain_extend_loop _, key _ _ _ (fun b o hb e => ?_) hS₃⟩
  exact (Heap.get?_update_other _ _ (Ne.symm hb)).trans ((Heap.get?_update_other _ _ (Ne.symm hb)).trans e)
theorem zl_init {R : Result → Shared → Prop} (Y : Yields prog w A.in1 z S ch tps St) (hn : tps.length ≤ sizeLine) (hz : z ∈ ch) (st : St 0 s.heap) (hS : s.heap.get? S = some { cls := .type "list", data := .seq #[] })
    (hR : ∀ h' tk acc c as, (∀ b o, b ≠ S → b ∉ ch → s.heap.get? b = some o → h'.get? b = some o) → h'.get? S = some { cls := .type "list", dict := none, data := .seq acc c, slots := #[] } → as.length = tps.length → Laid tps S h' as →
      acc.toList = as.map Value.ref → R (.ok (.ret .none)) { s with heap := h', toks := tk }) :
    wpAny (model prog w) A.in1 (Builtin.«list.__init__» ⟨[.ref S, .ref z], []⟩)
      (fun fin s' => match fin with | .done f => R (.ok f) s' | .again c' => c'.quiet = true ∧ codeAny (model prog w) A c' R s') (fun e s' => R (.error e) s') s := by
  show wpAny _ _ (do let old ← Builtin.List.listItems (.ref S); Builtin.List.listUpdate (.ref S) (fun _ => #[]); letGo old.toList.reverse; Builtin.List.listExtendWith (.ref S) (.ref z) .none) _ _ s
  refine wpAny_bind ?_
  unfold Builtin.List.listItems
  refine wpAny_bind (wpAny_seqItems hS rfl (wpAny_pure ?_))
  show wpAny _ _ (updateSeq S (fun _ => #[]) >>= fun _ => letGo (#[] : Array Value).toList.reverse >>= fun _ => Builtin.List.listExtendWith (.ref S) (.ref z) .none) _ _ s
  refine wpAny_bind (wpAny_updateSeq hS rfl ?_)
  have hS₂ := Heap.get?_update_self (Obj.mapSeq (fun _ => (#[] : Array Value))) hS rfl
  have oth : ∀ b o, b ≠ S → s.heap.get? b = some o → (s.heap.update S (Obj.mapSeq (fun _ => (#[] : Array Value)))).get? b = some o :=
    fun b o hb e => (Heap.get?_update_other _ _ (Ne.symm hb)).trans e
  refine wpAny_bind (wpAny_letGo ?_)
  refine zl_extend Y hn hz (Y.frame _ _ _ st oth) .none _ hS₂ (fun h' tk acc c as hk hS' hl hG hacc => ?_)
  exact hR h' tk acc c as (fun b o hb hc e => hk b o hb hc (oth b o hb e)) hS' hl hG hacc
theorem zl_call {Q : Value → Shared → Prop} (Y : Yields prog w A.in1.in1 z s.heap.objs.size ch tps St) (hn : tps.length ≤ sizeLine) (hz : z ∈ ch) (st : ∀ o, St 0 (s.heap.push o))
    (hQ : ∀ h' tk acc c as, (∀ b o, b ∉ ch → s.heap.get? b = some o → h'.get? b = some o) → h'.get? s.heap.objs.size = some { cls := .type "list", dict := none, data := .seq acc c, slots := #[] } → as.length = tps.length → Laid tps s.heap.objs.size h' as →
      acc.toList = as.map Value.ref → Q (.ref s.heap.objs.size) { s with heap := h', toks := tk }) :
    wpAny (model prog w) A (call (.type "list") [.ref z]) Q E s := by
  refine callType_codes (Q₁ := fun obj s₁ => obj = .ref s.heap.objs.size ∧ s₁ = { s with heap := s.heap.push { cls := .type "list", data := .seq #[] } }) PySem.F.called_list (PySem.F.typeCall_list_1 _) PySem.F.entry_list_init
    (code_list_new _ ⟨rfl, rfl⟩) fun obj s₁ h₁ => ?_
  obtain ⟨rfl, rfl⟩ := h₁
  have hS : (s.heap.push { cls := .type "list", data := .seq #[] }).get? s.heap.objs.size = some { cls := .type "list", data := .seq #[] } := Heap.get?_push_size _ rfl
  refine ⟨⟨_, hS, rfl⟩, PySem.F.args_list_init_2 _ _, zl_init (A := A.in1) (s := { s with heap := s.heap.push { cls := .type "list", data := .seq #[] } }) Y hn hz (st _) hS (fun h' tk acc c as hk hS' hl hG hacc => ?_)⟩
  exact ⟨rfl, hQ h' tk acc c as (fun b o hc e => hk b o (Nat.ne_of_lt (Heap.lt_size e)) hc (Heap.get?_push_of_some _ e)) hS' hl hG hacc⟩
end
section
variable {prog : Program} {w : World} {A : Around} {t1 t2 : Bool} {a1 a2 z TI TO i1 i2 S : Addr} {xs1 xs2 : List Value}
def tp2 (xs1 : List Value) (xs2 : List Value) : List (List Value) := List.zipWith (fun a b => [a, b]) xs1 xs2
theorem yieldsS2 (D : ZipSep2 z TI TO i1 i2 [i1, a1] [i2, a2]) (ne1 : a1 ≠ i1) (ne2 : a2 ≠ i2) (hh : A.handled = none) (m : Nat) (l1 : xs1.length = m) (l2 : xs2.length = m)
    (lz : z < S) (lTI : TI < S) (lTO : TO < S) (li1 : i1 < S) (la1 : a1 < S) (li2 : i2 < S) (la2 : a2 < S) :
    Yields prog w A z S [z, TO, i1, i2] (tp2 xs1 xs2) (fun i h => ((i = 0 ∧ IsZS h z TI TO .none false ∧ ∃ b1 b2, IsTupOf2 h TO b1 b2) ∨ ∃ (T : Addr) (f : Bool) (o : Obj), IsZS h z TI TO (rawInt T) f ∧ h.get? T = some o ∧ T ≠ S ∧ T ≠ z ∧ T ≠ i1 ∧ T ≠ i2) ∧ IsTupOf2 h TI (.ref i1) (.ref i2) ∧ (IterAt t1 h i1 a1 i ∧ ItemsAt t1 h a1 xs1.toArray) ∧ (IterAt t2 h i2 a2 i ∧ ItemsAt t2 h a2 xs2.toArray)) where
  ty := fun i h st => by
    obtain ⟨(⟨_, hz, _⟩ | ⟨T, f, o, hz, _⟩), _⟩ := st
    · exact ⟨_, hz, rfl⟩
    · exact ⟨_, hz, rfl⟩
  below := fun c hc => by
    have e : c = z ∨ c = TO ∨ c = i1 ∨ c = i2 := by simpa using hc
    rcases e with q | q | q | q <;> rw [q] <;> assumption
  frame := fun i h h' st k => by
    obtain ⟨hz, hTI, ⟨h1, p1⟩, ⟨h2, p2⟩⟩ := st
    have up : ∀ c o, c < S → h.get? c = some o → h'.get? c = some o := fun c o hc e => k c o (Nat.ne_of_lt hc) e
    refine ⟨?_, up _ _ lTI hTI, ⟨h1.move fun o q => up _ _ li1 q, ItemsAt.move p1 fun o q => up _ _ la1 q⟩, ⟨h2.move fun o q => up _ _ li2 q, ItemsAt.move p2 fun o q => up _ _ la2 q⟩⟩
    rcases hz with ⟨e, hz, b1, b2, hTO⟩ | ⟨T, f, o, hz, hT, n1, n2, m1, m2⟩
    · exact .inl ⟨e, up _ _ lz hz, b1, b2, up _ _ lTO hTO⟩
    · exact .inr ⟨T, f, o, up _ _ lz hz, k T o n1 hT, n1, n2, m1, m2⟩
  iter := fun A i s Q E st h => by
    obtain ⟨(⟨_, hz, _⟩ | ⟨T, f, o, hz, _⟩), _⟩ := st
    · exact iterS hz h
    · exact iterS hz h
  item := fun i s Q E t ht st hSl hQ => by
    obtain ⟨hz, hTI, ⟨h1, p1⟩, ⟨h2, p2⟩⟩ := st
    have hlt : i < m := by
      have q := (List.getElem?_eq_some_iff.mp ht).1
      unfold tp2 at q
      simp only [List.length_zipWith] at q
      omega
    have D1 := drawsB (prog := prog) (w := w) (A := A.in1) t1 hh i1 a1 ne1 xs1.toArray
    rw [show xs1.toArray.size = m by rw [List.size_toArray]; exact l1] at D1
    have g1 : xs1[i]? = some xs1[i] := List.getElem?_eq_getElem (by omega)
    have D2 := drawsB (prog := prog) (w := w) (A := A.in1) t2 hh i2 a2 ne2 xs2.toArray
    rw [show xs2.toArray.size = m by rw [List.size_toArray]; exact l2] at D2
    have g2 : xs2[i]? = some xs2[i] := List.getElem?_eq_getElem (by omega)
    have et : t = [xs1[i], xs2[i]] := by
      unfold tp2 at ht
      simp only [List.getElem?_zipWith, g1, g2] at ht
      exact (Option.some.inj ht).symm
    subst et
    unfold pyNext
    rcases hz with ⟨_, hz, b1, b2, hTO⟩ | ⟨T, f, oT, hz, hT, n1, n2, m1, m2⟩
    · have hTy : s.TypeIs (.ref z) "zip" := ⟨_, hz, rfl⟩
      refine wpAny_bind (wpAny_attempt (wpAny_callSpecial?_slot (name := Str.ofString "__next__") hTy F.slot_zip_next (wpAny_call_entry F.slot_zip_next hTy F.entry_zip_next
        (zS2_item D D1 D2 hz hTI hTO ⟨h1, p1⟩ ⟨h2, p2⟩ hlt fun w1 w2 h' tk e1 e2 z' TO2 s1 s2 hT hsz hk => ?_) (F.args_zip_next_1 _))))
      have ew1 : w1 = xs1[i] := by
        have z0 : xs1.toArray[i]? = some xs1[i] := by simpa using g1
        exact Option.some.inj (e1.symm.trans z0)
      have ew2 : w2 = xs2[i] := by
        have z0 : xs2.toArray[i]? = some xs2[i] := by simpa using g2
        exact Option.some.inj (e2.symm.trans z0)
      subst ew1 ew2
      have hzl : z < s.heap.objs.size := Heap.lt_size hz
      refine wpAny_pure (hQ h' tk ⟨.inr ⟨s.heap.objs.size, false, _, z', hT, Nat.ne_of_gt hSl, Nat.ne_of_gt hzl, Nat.ne_of_gt (Nat.lt_trans li1 hSl), Nat.ne_of_gt (Nat.lt_trans li2 hSl)⟩, hk _ _ D.TIz D.TITO D.TIi1 D.TIi2 hTI, s1, s2⟩ hT hsz fun b o hb e => hk b o (fun q => hb (by simp [q])) (fun q => hb (by simp [q])) (fun q => hb (by simp [q])) (fun q => hb (by simp [q])) e)
    · have hTy : s.TypeIs (.ref z) "zip" := ⟨_, hz, rfl⟩
      refine wpAny_bind (wpAny_attempt (wpAny_callSpecial?_slot (name := Str.ofString "__next__") hTy F.slot_zip_next (wpAny_call_entry F.slot_zip_next hTy F.entry_zip_next
        (zS2_itemH D D1 D2 hz hT hTI ⟨h1, p1⟩ ⟨h2, p2⟩ hlt fun w1 w2 h' tk e1 e2 z' s1 s2 hT2 hsz hk => ?_) (F.args_zip_next_1 _))))
      have ew1 : w1 = xs1[i] := by
        have z0 : xs1.toArray[i]? = some xs1[i] := by simpa using g1
        exact Option.some.inj (e1.symm.trans z0)
      have ew2 : w2 = xs2[i] := by
        have z0 : xs2.toArray[i]? = some xs2[i] := by simpa using g2
        exact Option.some.inj (e2.symm.trans z0)
      subst ew1 ew2
      refine wpAny_pure (hQ h' tk ⟨.inr ⟨T, true, oT, z', hk _ _ n2 m1 m2 hT, n1, n2, m1, m2⟩, hk _ _ D.TIz D.TIi1 D.TIi2 hTI, s1, s2⟩ hT2 hsz fun b o hb e => hk b o (fun q => hb (by simp [q])) (fun q => hb (by simp [q])) (fun q => hb (by simp [q])) e)
  done := fun s Q E st hQ => by
    obtain ⟨hz, hTI, ⟨h1, p1⟩, ⟨h2, p2⟩⟩ := st
    have hm : (tp2 xs1 xs2).length = m := by
      unfold tp2
      simp only [List.length_zipWith]
      omega
    rw [hm] at h1
    have D1 := drawsB (prog := prog) (w := w) (A := A.in1) t1 hh i1 a1 ne1 xs1.toArray
    rw [show xs1.toArray.size = m by rw [List.size_toArray]; exact l1] at D1
    rw [hm] at h2
    have D2 := drawsB (prog := prog) (w := w) (A := A.in1) t2 hh i2 a2 ne2 xs2.toArray
    rw [show xs2.toArray.size = m by rw [List.size_toArray]; exact l2] at D2
    unfold pyNext
    rcases hz with ⟨_, hz, b1, b2, hTO⟩ | ⟨T, f, oT, hz, hT, n1, n2, m1, m2⟩
    · have hTy : s.TypeIs (.ref z) "zip" := ⟨_, hz, rfl⟩
      refine wpAny_bind (wpAny_attempt (wpAny_callSpecial?_slot (name := Str.ofString "__next__") hTy F.slot_zip_next (wpAny_call_entry F.slot_zip_next hTy F.entry_zip_next
        (zS2_end (A := A.in1) hh D D1 D2 hz hTI ⟨h1, p1⟩ ⟨h2, p2⟩ fun h' tk e hk he => ?_) (F.args_zip_next_1 _))))
      obtain ⟨o, ho, hcl⟩ := he
      refine wpAny_bind (wpAny_isInstance (T := "StopIteration") (b := true) ⟨o, ho, hcl⟩ isSubtype_stop ?_)
      exact wpAny_pure (hQ h' tk fun b o hb e => hk b o (fun q => hb (by simp [q])) (fun q => hb (by simp [q])) (fun q => hb (by simp [q])) e)
    · have hTy : s.TypeIs (.ref z) "zip" := ⟨_, hz, rfl⟩
      refine wpAny_bind (wpAny_attempt (wpAny_callSpecial?_slot (name := Str.ofString "__next__") hTy F.slot_zip_next (wpAny_call_entry F.slot_zip_next hTy F.entry_zip_next
        (zS2_endH (A := A.in1) hh D D1 D2 hz hT hTI ⟨h1, p1⟩ ⟨h2, p2⟩ fun h' tk e hk he => ?_) (F.args_zip_next_1 _))))
      obtain ⟨o, ho, hcl⟩ := he
      refine wpAny_bind (wpAny_isInstance (T := "StopIteration") (b := true) ⟨o, ho, hcl⟩ isSubtype_stop ?_)
      exact wpAny_pure (hQ h' tk fun b o hb e => hk b o (fun q => hb (by simp [q])) (fun q => hb (by simp [q])) (fun q => hb (by simp [q])) e)
end
end DZ
set_option Elab.async false
set_option linter.all false
set_option maxRecDepth 100000
set_option maxHeartbeats 4000000
set_option autoImplicit false
namespace DZ
open PySem PySem.Spec PySem.Calls PyProof.Rows PyProof.V L2 PySem.W
def putTs : Hp → List Addr → List (List V) → Hp
  | H, a :: as, p :: ps => putTs (upd H a (.tup p)) as ps
  | H, _, _ => H
theorem putTs_off {b : Addr} : ∀ (as : List Addr) (kvs : List (List V)) (H : Hp), b ∉ as → putTs H as kvs b = H b
  | [], _, _, _ => rfl
  | _ :: _, [], _, _ => rfl
  | a :: as, p :: kvs, H, h => by
    show putTs (upd H a (.tup p)) as kvs b = H b
    rw [putTs_off as kvs _ (fun z => h (List.mem_cons_of_mem _ z)), upd_ne (fun z => h (by rw [z]; exact List.mem_cons_self))]
theorem putTs_at : ∀ (as : List Addr) (kvs : List (List V)) (H : Hp), as.length = kvs.length → as.Nodup → Paired (fun (t : Addr) (p : List V) => putTs H as kvs t = some (.tup p)) as kvs
  | [], [], _, _, _ => .nil
  | [], _ :: _, _, h, _ => by cases h
  | _ :: _, [], _, h, _ => by cases h
  | a :: as, p :: kvs, H, h, hn => by
    have hn' := List.nodup_cons.mp hn
    have ih := putTs_at as kvs (upd H a (.tup p)) (Nat.succ.inj h) hn'.2
    refine .cons ?_ ih
    show putTs (upd H a (.tup p)) as kvs a = some (.tup p)
    rw [putTs_off as kvs _ hn'.1, upd_same]
theorem tups_laid {X : Cx} {pins : List (Addr × Obj)} {σ : L2.St} {H : Hp} {s : Shared} {h' : Heap} {tk : Nat} {tvs : List (List V)} {tps : List (List Value)} {acc : Array Value} {c S : Nat} {as : List Addr} (I : Inv X pins σ H s) (hz : tps.length ≤ sizeLine) (kv : Paired Vals tvs tps) (h2 : ∀ t ∈ tvs, t.length ≤ sizeLine) (hlo : s.heap.objs.size ≤ S)
    (hk : ∀ b o, s.heap.get? b = some o → h'.get? b = some o) (hS : h'.get? S = some { cls := .type "list", dict := none, data := .seq acc c, slots := #[] }) (hl : as.length = tps.length) (hG : Laid tps S h' as) (hacc : acc.toList = as.map Value.ref) :
    ∃ H' : Hp, Same H H' ∧ H S = none ∧ (∀ t ∈ as, H t = none) ∧ S ∉ as ∧ H' S = some (.lst (as.map V.ref)) ∧ Paired (fun (t : Addr) (q : List V) => H' t = some (.tup q)) as tvs ∧ Inv X pins σ H' { s with heap := h', toks := tk } := by
  have lk : tvs.length = tps.length := Paired.length kv
  have hSn : S ∉ as := fun z => Nat.lt_irrefl _ (hG.above _ z)
  have nd : as.Nodup := List.Pairwise.imp (fun {a b} (h : a < b) => Nat.ne_of_lt h) hG.rise
  have new : ∀ t ∈ as, H t = none := fun t ht => I.hok.fresh (Nat.le_trans hlo (Nat.le_of_lt (hG.above t ht)))
  have newS : H S = none := I.hok.fresh hlo
  have atP := putTs_at as tvs (upd H S (.lst (as.map V.ref))) (by omega) nd
  have off : ∀ b, b ∉ as → b ≠ S → putTs (upd H S (.lst (as.map V.ref))) as tvs b = H b := fun b h1 h2 => by rw [putTs_off as tvs _ h1, upd_ne h2]
  have low : ∀ b o, s.heap.get? b = some o → b ∉ as ∧ b ≠ S := fun b o e => ⟨fun z => absurd (Heap.lt_size e) (Nat.not_lt.mpr (Nat.le_trans hlo (Nat.le_of_lt (hG.above b z)))), Nat.ne_of_lt (Nat.lt_of_lt_of_le (Heap.lt_size e) hlo)⟩
  have kp : ∀ b u, H b = some u → (putTs (upd H S (.lst (as.map V.ref))) as tvs) b = some u := fun b u e => by
    rw [off b (fun z => by rw [new b z] at e; cases e) (fun z => by rw [z, newS] at e; cases e)]
    exact e
  have eS : putTs (upd H S (.lst (as.map V.ref))) as tvs S = some (.lst (as.map V.ref)) := by rw [putTs_off as tvs _ hSn, upd_same]
  refine ⟨putTs (upd H S (.lst (as.map V.ref))) as tvs, kp, newS, new, hSn, eS, atP, ?_⟩
  refine I.call' (ch := []) rfl ⟨fun b o q _ _ _ => hk b o q, fun b o q _ _ _ => ⟨o.slots, hk b o q⟩, fun b o q n _ => ?_, fun b o q _ => ⟨o, hk b o q⟩, fun b xs q => kp b _ q, fun b o u q => kp b _ q, fun b ps q => ⟨#[], by rw [kp b _ q]; simp⟩⟩ (fun b u q => ?_) I.bare fun b z => by simp at z
  · obtain ⟨z1, z2⟩ := low b o q
    rw [off b z1 z2]
    exact n
  · by_cases hb : b ∈ as
    · obtain ⟨j, pk, e1, e2, e3⟩ := LiI.paired_ix atP hb
      rw [e3] at q
      cases q
      obtain ⟨t, f1, f3⟩ := hG.tups j b e1
      obtain ⟨qv, g1, g2⟩ := LiI.paired_get kv e2
      rw [f1] at g1
      cases g1
      exact ⟨h2 _ (List.mem_of_getElem? e2), t, g2, ⟨_, f3, rfl, _, rfl⟩⟩
    · by_cases hb2 : b = S
      · rw [hb2] at q ⊢
        rw [eS] at q
        cases q
        refine ⟨by rw [List.length_map]; omega, acc.toList, c, by rw [hacc]; exact LiI.vals_refs as, ?_⟩
        rw [Array.toArray_toList]
        exact hS
      · rw [off b hb hb2] at q
        exact (I.hok b u q).stay (fun d v _ y => hk d v y) (fun d y => kp d _ y) fun d xs y => kp d _ y
theorem vals_len : ∀ {xs : List V} {ys : List Value}, Vals xs ys → xs.length = ys.length := fun h => Paired.length h
theorem pz2 : ∀ {a b : List V} {c d : List Value}, Vals a c → Vals b d → Paired Vals (List.zipWith (fun x y => [x, y]) a b) (List.zipWith (fun x y => [x, y]) c d)
  | _, _, _, _, .nil, _ => by simp; exact .nil
  | _, _, _, _, .cons _ _, .nil => by simp; exact .nil
  | _, _, _, _, .cons r t, .cons r' t' => by simp only [List.zipWith_cons_cons]; exact .cons (.cons r (.cons r' .nil)) (pz2 t t')
def tv2 (xs1 xs2 : List V) : List (List V) := List.zipWith (fun a b => [a, b]) xs1 xs2
theorem tv2_len {xs1 xs2 : List V} : ∀ t ∈ tv2 xs1 xs2, t.length ≤ sizeLine := fun t ht => by
  obtain ⟨i, hi⟩ := List.mem_iff_getElem?.mp ht
  unfold tv2 at hi
  rw [List.getElem?_zipWith] at hi
  split at hi
  · cases hi; show 2 ≤ sizeLine; decide
  · cases hi
end DZ
namespace DL
open PySem PySem.Spec PyProof.Rows L2
theorem Stt.growBy {K : KR} {F : Fm} {g : G} {tm : List (V × R)} {s : L2.St} {H H' B : Hp} {al : List Addr} (S : Stt K F g tm s H B al) (e : Same H H') (nw : List Addr) (hn : ∀ a ∈ nw, H a = none) : Stt K F g tm s H' (fun a => if a ∈ nw then H' a else B a) al := by
  have bf : ∀ a ∈ nw, B a = none := fun a ha => S.bh.free (hn a ha)
  have eB : Same B (fun a => if a ∈ nw then H' a else B a) := fun a o q => by
    have na : a ∉ nw := fun z => by rw [bf a z] at q; cases q
    show (if a ∈ nw then H' a else B a) = some o
    rw [if_neg na]; exact q
  refine { rb := S.rb, ro := S.ro, rp := S.rp, ot := S.ot, fb := S.fb.trans eB, bh := ?_, fo := ?_, pre := S.pre, len := S.len, nd := S.nd, lv := ?_, nb := ?_, ce := ?_, sl := ?_, tm := ?_, sln := S.sln }
  · intro a o q
    have q' : (if a ∈ nw then H' a else B a) = some o := q
    by_cases ha : a ∈ nw
    · rw [if_pos ha] at q'; exact q'
    · rw [if_neg ha] at q'; exact e _ _ (S.bh _ _ q')
  · intro a u q
    obtain ⟨h1, h2, h3⟩ := S.fo a u q
    have na : a ∉ nw := fun z => by rw [hn a z] at h1; cases h1
    exact ⟨e _ _ h1, by show (if a ∈ nw then H' a else B a) = none; rw [if_neg na]; exact h2, h3⟩
  · intro a ha
    obtain ⟨u, q⟩ := S.lv a ha
    exact ⟨u, e _ _ q⟩
  · intro j a ct h1 h2 h3
    obtain ⟨u, q⟩ := S.lv a (List.mem_of_getElem? h1)
    have na : a ∉ nw := fun z => by rw [hn a z] at q; cases q
    show (if a ∈ nw then H' a else B a) = none
    rw [if_neg na]
    exact S.nb j a ct h1 h2 h3
  · intro j a ct h1 h2
    exact ct_mono0 eB (fun u q => e _ _ q) (S.ce j a ct h1 h2)
  · intro i r q
    obtain ⟨v, h1, h2⟩ := S.sl i r q
    exact ⟨v, h1, rv_mono0 eB h2⟩
  · intro q hq
    exact rv_mono0 eB (S.tm q hq)
def zip2 (xs ys : List PyData) : List PyData := List.zipWith (fun a b => .tuple [a, b]) xs ys
def zip3 (xs ys zs : List PyData) : List PyData := List.zipWith (fun a l => match l with | .tuple l => .tuple (a :: l) | x => x) xs (zip2 ys zs)
theorem dz2 {B : Hp} : ∀ {a b : List V} {c d : List PyData} {as : List Addr}, DqAll B a c → DqAll B b d → Paired (fun (t : Addr) (q : List V) => B t = some (.tup q)) as (DZ.tv2 a b) → DqAll B (as.map V.ref) (zip2 c d)
  | _, _, _, _, _, .nil, _, h => by cases h; exact .nil
  | _, _, _, _, _, .cons _ _, .nil, h => by cases h; exact .nil
  | _, _, _, _, _, .cons r t, .cons r' t', .cons h hh => .cons (.tup h (.cons r (.cons r' .nil))) (dz2 t t' hh)
theorem paired_mem {α β : Type} {F F' : α → β → Prop} : ∀ {xs : List α} {ys : List β}, (∀ a ∈ xs, ∀ b, F a b → F' a b) → Paired F xs ys → Paired F' xs ys
  | _, _, _, .nil => .nil
  | _, _, h, .cons a b => .cons (h _ List.mem_cons_self _ a) (paired_mem (fun a ha => h a (List.mem_cons_of_mem _ ha)) b)
theorem mkS2 {X : Cx} {e1 e2 : Expr} {ta : TA} {p pos : Pos} {kc : Nat} {pc kp : Pos} {pins : List (Addr × Obj)} {s : Shared} {σ : L2.St} {H : Hp} (R : Addr → Bool → List V → Addr → Bool → List V → Hp → Prop) (hg : Gl X "zip") (hm : X.mg "zip" = none) (ha : PA X [e1, e2] ta) (hs : starEach [e1, e2] X.env = (false, eval e1 X.env) :: starEach [e2] X.env := by rfl) (hpl : (backTo pos (starEach [e2] X.env)).any (·.1) = false := by rfl) (I : Inv X pins σ H s)
    (h : ta σ H fun vs H1 => ∃ (a1 : Addr) (t1 : Bool) (xs1 : List V) (a2 : Addr) (t2 : Bool) (xs2 : List V), vs = [V.ref a1, V.ref a2] ∧ SqB X.K t1 H1 a1 xs1 ∧ SqB X.K t2 H1 a2 xs2 ∧ R a1 t1 xs1 a2 t2 xs2 H1) :
    wpAny (model X.prog X.w) X.A (eval (.Call (.Name "zip" p) [e1, e2] [⟨some "strict", .Constant (.bool true) kc pc, kp⟩] pos) X.env) (fun v s2 => ∃ (s1 : Shared) (h' : Heap) (H1 : Hp) (a1 : Addr) (t1 : Bool) (xs1 : List V) (a2 : Addr) (t2 : Bool) (xs2 : List V), v = .ref (s1.heap.objs.size + 4) ∧ s2 = { s1 with heap := h' } ∧ Inv X pins σ H1 s1 ∧ SqB X.K t1 H1 a1 xs1 ∧ SqB X.K t2 H1 a2 xs2 ∧ R a1 t1 xs1 a2 t2 xs2 H1 ∧
      DZ.IsZS h' (s1.heap.objs.size + 4) (s1.heap.objs.size + 2) (s1.heap.objs.size + 3) .none false ∧ IsTupOf2 h' (s1.heap.objs.size + 2) (.ref s1.heap.objs.size) (.ref (s1.heap.objs.size + 1)) ∧ IsTupOf2 h' (s1.heap.objs.size + 3) .none .none ∧ DZ.IterAt t1 h' s1.heap.objs.size a1 0 ∧ DZ.IterAt t2 h' (s1.heap.objs.size + 1) a2 0 ∧ h'.objs.size = s1.heap.objs.size + 5 ∧ (∀ c o, s1.heap.get? c = some o → h'.get? c = some o)) X.xe s := by
  refine wpAny_Call_Name_kw (ld_blt I hg hm PyProof.Rows.boot_zip ?_)
  refine cw_type_kw (thn (ha.run pos pins s σ H _ I h) fun us s1 ⟨vs, H1, I1, r1, q1⟩ => kws_cons (thn (pe_bl.run pins s1 σ H1 (fun v H2 => v = .bl true ∧ H2 = H1) I1 ⟨rfl, rfl⟩) fun u s2 ⟨v, H2, I2, rv, ev, eH⟩ => kws_nil ?_)) (by rw [hs]; rfl) (by rw [hs]; exact hpl) rfl rfl
  subst ev eH
  have eu : u = .bool true := rv
  subst eu
  obtain ⟨a1, t1, xs1, a2, t2, xs2, ex, hq1, hq2, q⟩ := q1
  subst ex
  have eus : us = [Value.ref a1, Value.ref a2] := by
    cases r1 with
    | cons r1a r1b =>
      cases r1b with
      | cons r2a r2b =>
        cases r2b
        cases r1a
        cases r2a
        rfl
  subst eus
  obtain ⟨its1, rv1, p1, _⟩ := seqB_at I2 hq1
  obtain ⟨its2, rv2, p2, _⟩ := seqB_at I2 hq2
  exact DZ.beginsS2 (DZ.beginsB t1 a1 its1.toArray) (DZ.beginsB t2 a2 its2.toArray) p1 p2 fun h' hz hTI hTO g1 g2 hsz hk => ⟨s2, h', H2, a1, t1, xs1, a2, t2, xs2, rfl, rfl, I2, hq1, hq2, q, hz, hTI, hTO, DZ.IterAt.start g1, DZ.IterAt.start g2, hsz, hk⟩
def tLZS2 (K : PySem.W.Frag) (ta : TA) : TE := fun σ H Q => ta σ H fun vs H1 => ∃ (a1 : Addr) (t1 : Bool) (xs1 : List V) (a2 : Addr) (t2 : Bool) (xs2 : List V), vs = [V.ref a1, V.ref a2] ∧ SqB K t1 H1 a1 xs1 ∧ SqB K t2 H1 a2 xs2 ∧ (xs2.length = xs1.length ∧ ∀ (H' : Hp) (S : Addr) (as : List Addr), Same H1 H' → H1 S = none → (∀ t ∈ as, H1 t = none) → S ∉ as → H' S = some (.lst (as.map V.ref)) → Paired (fun (t : Addr) (q : List V) => H' t = some (.tup q)) as (DZ.tv2 xs1 xs2) → Q (.ref S) H')
theorem pe_lzS2 {X : Cx} {e1 e2 : Expr} {ta : TA} {p pos pl posl : Pos} {kc : Nat} {pc kp : Pos} (hc : X.calm = true) (hgl : Gl X "list") (hml : X.mg "list" = none) (hg : Gl X "zip") (hm : X.mg "zip" = none) (ha : PA X [e1, e2] ta) (hs : starEach [e1, e2] X.env = (false, eval e1 X.env) :: starEach [e2] X.env := by rfl) (hpl : (backTo pos (starEach [e2] X.env)).any (·.1) = false := by rfl)
    (hsl : starEach [(.Call (.Name "zip" p) [e1, e2] [⟨some "strict", .Constant (.bool true) kc pc, kp⟩] pos)] X.env = (false, eval (.Call (.Name "zip" p) [e1, e2] [⟨some "strict", .Constant (.bool true) kc pc, kp⟩] pos) X.env) :: starEach [] X.env := by rfl) :
    PE X (.Call (.Name "list" pl) [(.Call (.Name "zip" p) [e1, e2] [⟨some "strict", .Constant (.bool true) kc pc, kp⟩] pos)] [] posl) (tLZS2 X.K ta) := by
  refine ⟨fun pins s σ H Q I h => ?_⟩
  refine wpAny_Call_Name_kw (ld_blt I hgl hml PyProof.Rows.boot_list ?_)
  refine PyProof.Rows.callWith_type1 ?_ hsl rfl
  rw [hsl]
  show wpAny _ _ (spliced ((false, eval (.Call (.Name "zip" p) [e1, e2] [⟨some "strict", .Constant (.bool true) kc pc, kp⟩] pos) X.env) :: backTo posl (starEach [] X.env))) _ _ s
  refine Calls.spliced_cons ?_
  refine thn (mkS2 (fun a1 t1 xs1 a2 t2 xs2 H1 => (xs2.length = xs1.length ∧ ∀ (H' : Hp) (S : Addr) (as : List Addr), Same H1 H' → H1 S = none → (∀ t ∈ as, H1 t = none) → S ∉ as → H' S = some (.lst (as.map V.ref)) → Paired (fun (t : Addr) (q : List V) => H' t = some (.tup q)) as (DZ.tv2 xs1 xs2) → Q (.ref S) H')) hg hm ha hs hpl I h) ?_
  rintro v s2 ⟨s1, h', H1, a1, t1, xs1, a2, t2, xs2, rfl, rfl, I1, hq1, hq2, ⟨el2, q⟩, hz, hTI, hTO, g1, g2, hsz, hk⟩
  refine Calls.spliced_nil ?_
  obtain ⟨its1, rv1, p1, sl1⟩ := seqB_at I1 hq1
  have la1 := DZ.ItemsAt.lt p1
  have vl1 := DZ.vals_len rv1
  obtain ⟨its2, rv2, p2, sl2⟩ := seqB_at I1 hq2
  have la2 := DZ.ItemsAt.lt p2
  have vl2 := DZ.vals_len rv2
  have D := zip_sep2 (N := s1.heap.objs.size) (fp1 := [a1]) (fp2 := [a2]) (fun b hb => by rw [List.mem_singleton.mp hb]; exact la1) (fun b hb => by rw [List.mem_singleton.mp hb]; exact la2)
  have lN : ∀ k : Nat, k < 5 → s1.heap.objs.size + k < h'.objs.size := fun k hk => by rw [hsz]; exact Nat.add_lt_add_left hk _
  have Y := DZ.yieldsS2 (prog := X.prog) (w := X.w) (A := X.A.in1.in1) (t1 := t1) (t2 := t2) (xs1 := its1) (xs2 := its2) (S := h'.objs.size) D (Nat.ne_of_lt (Nat.lt_of_lt_of_le la1 (Nat.le_add_right _ 0))) (Nat.ne_of_lt (Nat.lt_of_lt_of_le la2 (Nat.le_add_right _ 1))) (I1.ok.hd hc) its1.length rfl (by omega) (lN 4 (by omega)) (lN 2 (by omega)) (lN 3 (by omega)) (lN 0 (by omega)) (Nat.lt_of_lt_of_le la1 (Nat.le_of_lt (lN 0 (by omega)))) (lN 1 (by omega)) (Nat.lt_of_lt_of_le la2 (Nat.le_of_lt (lN 0 (by omega))))
  have tl : (DZ.tp2 its1 its2).length = its1.length := by
    unfold DZ.tp2
    simp only [List.length_zipWith]
    omega
  refine DZ.zl_call (s := { s1 with heap := h' }) Y (by omega) (by simp) (fun o => ?_) fun h2 tk acc c as hk2 hS hl hG hacc => ?_
  · have up : ∀ c o', h'.get? c = some o' → (h'.push o).get? c = some o' := fun c o' e => Heap.get?_push_of_some _ e
    exact ⟨.inl ⟨rfl, up _ _ hz, .none, .none, up _ _ hTO⟩, up _ _ hTI, ⟨g1.move fun o q => up _ _ q, DZ.ItemsAt.move p1 fun o q => up _ _ (hk _ _ q)⟩, ⟨g2.move fun o q => up _ _ q, DZ.ItemsAt.move p2 fun o q => up _ _ (hk _ _ q)⟩⟩
  · have kk : ∀ b o, s1.heap.get? b = some o → h2.get? b = some o := fun b o e => hk2 b o (fun q => by
      have hb := Heap.lt_size e
      have e' : b = (s1.heap.objs.size + 4) ∨ b = (s1.heap.objs.size + 3) ∨ b = s1.heap.objs.size ∨ b = (s1.heap.objs.size + 1) := by simpa using q
      rcases e' with q | q | q | q <;> rw [q] at hb <;> first | exact Nat.lt_irrefl _ hb | exact Nat.lt_irrefl _ (Nat.lt_of_le_of_lt (Nat.le_add_right _ _) hb)) (hk b o e)
    have pv : Paired Vals (DZ.tv2 xs1 xs2) (DZ.tp2 its1 its2) := DZ.pz2 rv1 rv2
    obtain ⟨H', k1, k2, k3, k4, k5, k6, J⟩ := DZ.tups_laid (tk := tk) I1 (by omega) pv DZ.tv2_len (by show s1.heap.objs.size ≤ h'.objs.size; omega) kk hS hl hG hacc
    exact ⟨.ref _, H', J, rfl, q H' _ as k1 k2 k3 k4 k5 k6⟩
def iZipS2 (da : DA) : DI := fun g k => da g fun rs g1 => ∃ (x1 : PyData) (t1 : Bool) (ds1 : List PyData) (x2 : PyData) (t2 : Bool) (ds2 : List PyData), rs = [R.d x1, R.d x2] ∧ seqOf g1 (.d x1) = some (t1, ds1) ∧ seqOf g1 (.d x2) = some (t2, ds2) ∧ ds2.length = ds1.length ∧ k (zip2 ds1 ds2) g1
def dLZS2 (da : DA) : DE := fun g k => da g fun rs g1 => ∃ (r1 : R) (t1 : Bool) (ds1 : List PyData) (r2 : R) (t2 : Bool) (ds2 : List PyData), rs = [r1, r2] ∧ seqOf g1 r1 = some (t1, ds1) ∧ seqOf g1 r2 = some (t2, ds2) ∧ ds2.length = ds1.length ∧ k (.d (.list (zip2 ds1 ds2))) g1
theorem mkP2 {X : Cx} {e1 e2 : Expr} {ta : TA} {p pos : Pos} {pins : List (Addr × Obj)} {s : Shared} {σ : L2.St} {H : Hp} (R : Addr → Bool → List V → Addr → Bool → List V → Hp → Prop) (hg : Gl X "zip") (hm : X.mg "zip" = none) (ha : PA X [e1, e2] ta) (hs : starEach [e1, e2] X.env = (false, eval e1 X.env) :: starEach [e2] X.env := by rfl) (hpl : (backTo pos (starEach [e2] X.env)).any (·.1) = false := by rfl) (I : Inv X pins σ H s)
    (h : ta σ H fun vs H1 => ∃ (a1 : Addr) (t1 : Bool) (xs1 : List V) (a2 : Addr) (t2 : Bool) (xs2 : List V), vs = [V.ref a1, V.ref a2] ∧ SqB X.K t1 H1 a1 xs1 ∧ SqB X.K t2 H1 a2 xs2 ∧ R a1 t1 xs1 a2 t2 xs2 H1) :
    wpAny (model X.prog X.w) X.A (eval (.Call (.Name "zip" p) [e1, e2] [] pos) X.env) (fun v s2 => ∃ (s1 : Shared) (h' : Heap) (H1 : Hp) (a1 : Addr) (t1 : Bool) (xs1 : List V) (a2 : Addr) (t2 : Bool) (xs2 : List V), v = .ref (s1.heap.objs.size + 4) ∧ s2 = { s1 with heap := h' } ∧ Inv X pins σ H1 s1 ∧ SqB X.K t1 H1 a1 xs1 ∧ SqB X.K t2 H1 a2 xs2 ∧ R a1 t1 xs1 a2 t2 xs2 H1 ∧
      DZ.IsZP h' (s1.heap.objs.size + 4) (s1.heap.objs.size + 2) (s1.heap.objs.size + 3) .none false ∧ IsTupOf2 h' (s1.heap.objs.size + 2) (.ref s1.heap.objs.size) (.ref (s1.heap.objs.size + 1)) ∧ IsTupOf2 h' (s1.heap.objs.size + 3) .none .none ∧ DZ.IterAt t1 h' s1.heap.objs.size a1 0 ∧ DZ.IterAt t2 h' (s1.heap.objs.size + 1) a2 0 ∧ h'.objs.size = s1.heap.objs.size + 5 ∧ (∀ c o, s1.heap.get? c = some o → h'.get? c = some o)) X.xe s := by
  refine wpAny_Call_Name_kw (ld_blt I hg hm PyProof.Rows.boot_zip ?_)
  refine PyProof.Rows.callWith_type1 (thn (ha.run pos pins s σ H _ I h) fun us s2 ⟨vs, H2, I2, r1, q1⟩ => ?_) hs hpl
  obtain ⟨a1, t1, xs1, a2, t2, xs2, ex, hq1, hq2, q⟩ := q1
  subst ex
  have eus : us = [Value.ref a1, Value.ref a2] := by
    cases r1 with
    | cons r1a r1b =>
      cases r1b with
      | cons r2a r2b =>
        cases r2b
        cases r1a
        cases r2a
        rfl
  subst eus
  obtain ⟨its1, rv1, p1, _⟩ := seqB_at I2 hq1
  obtain ⟨its2, rv2, p2, _⟩ := seqB_at I2 hq2
  exact zip_begins2 (DZ.beginsB t1 a1 its1.toArray) (DZ.beginsB t2 a2 its2.toArray) p1 p2 fun h' hz hTI hTO g1 g2 hsz hk => ⟨s2, h', H2, a1, t1, xs1, a2, t2, xs2, rfl, rfl, I2, hq1, hq2, q, hz, hTI, hTO, DZ.IterAt.start g1, DZ.IterAt.start g2, hsz, hk⟩
def iZP2 (K : PySem.W.Frag) (ta : TA) : TI := fun σ H R => ta σ H fun vs H1 => ∃ (a1 : Addr) (t1 : Bool) (xs1 : List V) (a2 : Addr) (t2 : Bool) (xs2 : List V), vs = [V.ref a1, V.ref a2] ∧ SqB K t1 H1 a1 xs1 ∧ SqB K t2 H1 a2 xs2 ∧ R (ItZ2 K t1 a1 t2 a2) H1
theorem pi_zP2 {X : Cx} {e1 e2 : Expr} {ta : TA} {p pos tpos : Pos} {elts : List Expr} {kk : Nat} (hg : Gl X "zip") (hm : X.mg "zip" = none) (ha : PA X [e1, e2] ta) (hs : starEach [e1, e2] X.env = (false, eval e1 X.env) :: starEach [e2] X.env := by rfl) (hpl : (backTo pos (starEach [e2] X.env)).any (·.1) = false := by rfl) :
    PI X (.Tuple elts kk tpos) (.Call (.Name "zip" p) [e1, e2] [] pos) (iZP2 X.K ta) := by
  refine ⟨fun pins s σ H R I h => ?_⟩
  refine thn (mkP2 (fun a1 t1 xs1 a2 t2 xs2 H1 => R (ItZ2 X.K t1 a1 t2 a2) H1) hg hm ha hs hpl I h) ?_
  rintro v s2 ⟨s1, h', H1, a1, t1, xs1, a2, t2, xs2, rfl, rfl, I1, hq1, hq2, q, hz, hTI, hTO, g1, g2, hsz, hk⟩
  obtain ⟨its1, rv1, p1, _⟩ := seqB_at I1 hq1
  have la1 := DZ.ItemsAt.lt p1
  obtain ⟨its2, rv2, p2, _⟩ := seqB_at I1 hq2
  have la2 := DZ.ItemsAt.lt p2
  have D := zip_sep2 (N := s1.heap.objs.size) (fp1 := [a1]) (fp2 := [a2]) (fun b hb => by rw [List.mem_singleton.mp hb]; exact la1) (fun b hb => by rw [List.mem_singleton.mp hb]; exact la2)
  refine DZ.iterP hz ?_
  have I2 : Inv X pins σ H1 { s1 with heap := h' } := I1.kept (t' := s1.toks) hk
  refine ⟨(s1.heap.objs.size + 4), [(s1.heap.objs.size + 4), (s1.heap.objs.size + 2), (s1.heap.objs.size + 3), s1.heap.objs.size, (s1.heap.objs.size + 1)], _, _, H1, rfl, I2, turnP2 D (Nat.ne_of_lt (Nat.lt_of_lt_of_le la1 (Nat.le_add_right _ 0))) (Nat.ne_of_lt (Nat.lt_of_lt_of_le la2 (Nat.le_add_right _ 1))), ⟨hz, hTI, ⟨_, _, hTO⟩, g1, g2⟩, fun c hcm => ?_, q⟩
  have e' : c = (s1.heap.objs.size + 4) ∨ c = (s1.heap.objs.size + 2) ∨ c = (s1.heap.objs.size + 3) ∨ c = s1.heap.objs.size ∨ c = (s1.heap.objs.size + 1) := by simpa using hcm
  have hle : s1.heap.objs.size ≤ c := by
    rcases e' with q | q | q | q | q <;> rw [q] <;> first | exact Nat.le_refl _ | exact Nat.le_add_right _ _
  exact I1.fpOk hle (I1.hok.fresh hle)
def iZipP2 (da : DA) : DI := fun g k => da g fun rs g1 => ∃ (x1 : PyData) (t1 : Bool) (ds1 : List PyData) (x2 : PyData) (t2 : Bool) (ds2 : List PyData), rs = [R.d x1, R.d x2] ∧ seqOf g1 (.d x1) = some (t1, ds1) ∧ seqOf g1 (.d x2) = some (t2, ds2) ∧ ds2.length = ds1.length ∧ k (zip2 ds1 ds2) g1
theorem seqd {K : PySem.W.Frag} {B : Hp} {g : G} {v : V} {x : PyData} {t : Bool} {ds : List PyData} (h : Dq B v x) (e : seqOf g (.d x) = some (t, ds)) : ∃ a xs, v = .ref a ∧ SqB K t B a xs ∧ DqAll B xs ds := by
  cases x with
  | list es =>
    have e : (false, es) = (t, ds) := Option.some.inj e
    cases e
    obtain ⟨a, xs, e1, e2, e3⟩ := dq_list h
    exact ⟨a, xs, e1, .inl (.inl e2), e3⟩
  | tuple es =>
    have e : (true, es) = (t, ds) := Option.some.inj e
    cases e
    obtain ⟨a, xs, e1, e2, e3⟩ := dq_tup h
    exact ⟨a, xs, e1, .inl (.inl e2), e3⟩
  | _ => cases e
theorem walk_z2 {K : KR} {B0 : Hp} {a1 a2 : Addr} {t1 t2 : Bool} {xs1 xs2 : List V} {ds1 ds2 : List PyData} (h1 : SqB K.fr t1 B0 a1 xs1) (h2 : SqB K.fr t2 B0 a2 xs2) (d1 : DqAll B0 xs1 ds1) (d2 : DqAll B0 xs2 ds2) (el : ds2.length = ds1.length) : WalkOk K B0 (ItZ2 K.fr t1 a1 t2 a2) (zip2 ds1 ds2) := fun F g tm s H B al i S e => by
  have q1 : SqB K.fr t1 H a1 xs1 := same_b S.bh (same_b e h1)
  have q2 : SqB K.fr t2 H a2 xs2 := same_b S.bh (same_b e h2)
  have l1 := dqall_len d1
  have l2 := dqall_len d2
  have zl : (zip2 ds1 ds2).length = ds1.length := by unfold zip2; rw [List.length_zipWith]; omega
  refine ⟨fun d hd => ?_, fun hi => ⟨xs1, xs2, q1, q2, by omega, by omega⟩⟩
  have hlt : i < ds1.length := by rw [← zl]; exact (List.getElem?_eq_some_iff.mp hd).1
  have g1 : ds1[i]? = some ds1[i] := List.getElem?_eq_getElem hlt
  have g2 : ds2[i]? = some ds2[i] := List.getElem?_eq_getElem (by omega)
  have ed : d = .tuple [ds1[i], ds2[i]] := by
    unfold zip2 at hd
    simp only [List.getElem?_zipWith, g1, g2] at hd
    exact (Option.some.inj hd).symm
  subst ed
  obtain ⟨x1, f1, c1⟩ := dqall_get d1 g1
  obtain ⟨x2, f2, c2⟩ := dqall_get d2 g2
  refine ⟨⟨xs1, xs2, x1, x2, xs1.length, q1, q2, rfl, by omega, f1, f2⟩, fun y H' ⟨T, y1, y2, ey, hT, eH, u1, u2⟩ => ?_⟩
  subst ey eH
  have e1 := u1 xs1 q1
  rw [f1] at e1
  cases e1
  have e2 := u2 xs2 q2
  rw [f2] at e2
  cases e2
  have nB : Same B (upd B T (.tup [x1, x2])) := same_new (S.bh.free hT)
  exact ⟨upd B T (.tup [x1, x2]), S.grow hT, nB, .tup upd_same (.cons (dq_mono (e.trans nB) c1) (.cons (dq_mono (e.trans nB) c2) .nil))⟩
section
variable {ρ : Root} {X : Cx} {e1 e2 e3 : Expr} {da : DA} {p pos tpos pl posl : Pos} {kc kk : Nat} {pc kp : Pos} {elts : List Expr}
theorem pd_lzS2 (hc : X.calm = true) (hgl : Gl X "list") (hml : X.mg "list" = none) (hg : Gl X "zip") (hm : X.mg "zip" = none) (ha : PDA ρ X [e1, e2] da) (hs : starEach [e1, e2] X.env = (false, eval e1 X.env) :: starEach [e2] X.env := by rfl) (hpl : (backTo pos (starEach [e2] X.env)).any (·.1) = false := by rfl)
    (hsl : starEach [.Call (.Name "zip" p) [e1, e2] [⟨some "strict", .Constant (.bool true) kc pc, kp⟩] pos] X.env = (false, eval (.Call (.Name "zip" p) [e1, e2] [⟨some "strict", .Constant (.bool true) kc pc, kp⟩] pos) X.env) :: starEach [] X.env := by rfl) :
    PD ρ X (.Call (.Name "list" pl) [.Call (.Name "zip" p) [e1, e2] [⟨some "strict", .Constant (.bool true) kc pc, kp⟩] pos] [] posl) (dLZS2 da) := pe_imp (pe_lzS2 hc hgl hml hg hm ha hs hpl hsl) fun s H Q ⟨F, g, tm, k, B, al, S, hk, q⟩ => ⟨F, g, tm, _, B, al, S, hk, fun vs H1 rs g1 B1 al1 ⟨x1, t1, ds1, x2, t2, ds2, er, s1, s2, el2, hk1⟩ S1 pr => by
    subst er
    obtain ⟨v1, v2, rfl, h1, h2⟩ := pair2 pr
    obtain ⟨a1, xs1, rfl, b1, c1⟩ := S1.seq h1 s1
    have l1 := dqall_len c1
    obtain ⟨a2, xs2, rfl, b2, c2⟩ := S1.seq h2 s2
    have l2 := dqall_len c2
    refine ⟨a1, t1, xs1, a2, t2, xs2, rfl, b1, b2, by omega, fun H2 P as k1 k2 k3 k4 k5 k6 => ?_⟩
    have S2 := S1.growBy k1 (P :: as) (fun a ha => (List.mem_cons.mp ha).elim (fun z => z ▸ k2) fun z => k3 a z)
    have nB : Same B1 (fun a => if a ∈ P :: as then H2 a else B1 a) := fun a o z => by
      have na : a ∉ P :: as := fun y => by
        have w0 := S1.bh.free ((List.mem_cons.mp y).elim (fun z => z ▸ k2) fun z => k3 a z)
        rw [w0] at z
        cases z
      show (if a ∈ P :: as then H2 a else B1 a) = some o
      rw [if_neg na]; exact z
    refine q _ H2 (.d _) g1 _ al1 hk1 (S2.push (Dq.lst (show (if P ∈ P :: as then H2 P else B1 P) = some (.lst (as.map V.ref)) by rw [if_pos List.mem_cons_self]; exact k5) ?_))
    exact dz2 (dqall_mono nB c1) (dqall_mono nB c2) (paired_mem (fun a ha b e => by
      show (if a ∈ P :: as then H2 a else B1 a) = some (.tup b)
      rw [if_pos (List.mem_cons_of_mem _ ha)]; exact e) k6)⟩
theorem pdi_zipP2 (hg : Gl X "zip") (hm : X.mg "zip" = none) (ha : PDA ρ X [e1, e2] da) (hs : starEach [e1, e2] X.env = (false, eval e1 X.env) :: starEach [e2] X.env := by rfl) (hpl : (backTo pos (starEach [e2] X.env)).any (·.1) = false := by rfl) :
    PDI ρ X (.Tuple elts kk tpos) (.Call (.Name "zip" p) [e1, e2] [] pos) (iZipP2 da) := pi_imp (pi_zP2 hg hm ha hs hpl) fun s H Q ⟨F, g, tm, k, B, al, S, hk, q⟩ => ⟨F, g, tm, _, B, al, S, hk, fun vs H1 rs g1 B1 al1 ⟨x1, t1, ds1, x2, t2, ds2, er, s1, s2, el2, hk1⟩ S1 pr => by
    subst er
    obtain ⟨v1, v2, rfl, h1, h2⟩ := pair2 pr
    obtain ⟨a1, xs1, rfl, b1, c1⟩ := seqd (K := X.K) h1 s1
    obtain ⟨a2, xs2, rfl, b2, c2⟩ := seqd (K := X.K) h2 s2
    exact ⟨a1, t1, xs1, a2, t2, xs2, rfl, same_b S1.bh b1, same_b S1.bh b2, q _ H1 _ g1 B1 al1 hk1 S1 (walk_z2 b1 b2 c1 c2 el2)⟩⟩
end
end DL
set_option Elab.async false
set_option linter.all false
set_option maxRecDepth 100000
set_option maxHeartbeats 4000000
set_option autoImplicit false
namespace DL
open PySem PySem.Spec PyProof.Rows L2
theorem un65 {k : Nat} {A : Around} (r : Room k A) : A.units + 65 < cLine := by have := r.un; omega
theorem un1 {k : Nat} {A : Around} (r : Room k A) : A.units + 1 < cLine := by have := r.un; omega
theorem seqr {K : KR} {B : Hp} {al : List Addr} {g : G} {v : V} {r : R} {t : Bool} {ds : List PyData} (h : RvOk K B al v r) (hn : noO r = true) (e : seqOf g r = some (t, ds)) : ∃ a xs, v = .ref a ∧ SqB K.fr t B a xs ∧ DqAll B xs ds := by
  cases r with
  | d x => exact seqd h e
  | o j => cases hn
  | x n => cases e
  | m ct => cases e
  | l js => cases e
  | f j ds => cases e
  | s ns =>
    have e : (false, ns.map PyData.int) = (t, ds) := Option.some.inj e
    cases e
    obtain ⟨a, e1, e2⟩ := h
    exact ⟨a, ns.map V.int, e1, e2, dqall_mkints ns⟩
section
variable {ρ : Root} {X : Cx} {st : Stmt} {e c tg : Expr} {pos : Pos} {K : KR}
def iSqB (K : PySem.W.Frag) (te : TE) : TI := fun σ H R => te σ H fun v H1 => ∃ a, v = .ref a ∧ (((∃ xs, SqL K H1 a xs) ∧ R (Itl K a) H1) ∨ ((∃ xs, SqT K H1 a xs) ∧ R (Itt K a) H1))
theorem pi_sqB {l : Expr} {tl : TE} (hl : PE X l tl) : PI X tg l (iSqB X.K tl) := by
  refine ⟨fun pins s σ H R I h => ?_⟩
  refine thn (hl.run pins s σ H _ I h) fun v s1 ⟨x, H1, I1, r1, q1⟩ => ?_
  obtain ⟨a, e, q1⟩ := q1
  subst e
  cases r1
  have fp : ∀ b ∈ [s1.heap.objs.size], FpOk X pins H1 b := fun b hb => by
    have e : b = s1.heap.objs.size := by simpa using hb
    subst e
    exact I1.fpOk (Nat.le_refl _) (I1.hok.fresh (Nat.le_refl _))
  rcases q1 with ⟨⟨xs, hq⟩, q⟩ | ⟨⟨xs, hq⟩, q⟩
  · obtain ⟨its, rv, p, hz⟩ := I1.list hq
    refine wpAny_pyIter_list p.isList ?_
    exact ⟨s1.heap.objs.size, [s1.heap.objs.size], _, _, H1, rfl, I1.kept (t' := s1.toks) fun b o e => Heap.get?_push_of_some _ e, turn_list a _, ⟨_, Heap.get?_push_size _ rfl, rfl, rfl⟩, fp, q⟩
  · obtain ⟨its, rv, p, hz⟩ := I1.tuple hq
    refine wpAny_pyIter_tuple (show s1.heap.IsTuple a its.toArray from p) ?_
    exact ⟨s1.heap.objs.size, [s1.heap.objs.size], _, _, H1, rfl, I1.kept (t' := s1.toks) fun b o e => Heap.get?_push_of_some _ e, turn_tuple a _, ⟨_, Heap.get?_push_size _ rfl, rfl, rfl⟩, fp, q⟩
def iSq (de : DE) : DI := fun g k => de g fun r g1 => ∃ t ds, noO r = true ∧ seqOf g1 r = some (t, ds) ∧ k ds g1
theorem walk_t {B : Hp} {a : Addr} {xs : List V} {ds : List PyData} (ha : SqT K.fr B a xs) (h : DqAll B xs ds) : WalkOk K B (Itt K.fr a) ds := fun F g tm s H B1 al i S e => by
  have hq : SqT K.fr H a xs := same_t S.bh (same_t e ha)
  refine ⟨fun d hd => ?_, fun hi => ⟨xs, hq, by rw [dqall_len h]; omega⟩⟩
  obtain ⟨x, h1, h2⟩ := dqall_get h hd
  refine ⟨⟨xs, x, hq, h1⟩, fun y H' ⟨e1, e2⟩ => ?_⟩
  subst e1
  have ey := e2 xs hq
  rw [h1] at ey
  cases ey
  exact ⟨B1, S, Same.refl _, dq_mono e h2⟩
theorem walk_l {B : Hp} {a : Addr} {xs : List V} {ds : List PyData} (ha : SqL K.fr B a xs) (h : DqAll B xs ds) : WalkOk K B (Itl K.fr a) ds := fun F g tm s H B1 al i S e => by
  have hq : SqL K.fr H a xs := same_l S.bh (same_l e ha)
  refine ⟨fun d hd => ?_, fun hi => ⟨xs, hq, by rw [dqall_len h]; omega⟩⟩
  obtain ⟨x, h1, h2⟩ := dqall_get h hd
  refine ⟨⟨xs, x, hq, h1⟩, fun y H' ⟨e1, e2⟩ => ?_⟩
  subst e1
  have ey := e2 xs hq
  rw [h1] at ey
  cases ey
  exact ⟨B1, S, Same.refl _, dq_mono e h2⟩
theorem pdi_seq {l : Expr} {de : DE} (h : PD ρ X l de) : PDI ρ X tg l (iSq de) := pi_imp (pi_sqB h) fun s H Q ⟨F, g, tm, k, B, al, S, hk, q⟩ => ⟨F, g, tm, _, B, al, S, hk, fun v H1 r g1 B1 al1 ⟨t, ds, hn, hs, hk1⟩ S1 => by
    obtain ⟨a, xs, e0, h1, h2⟩ := seqr (K := ⟨X.K, ρ⟩) (S1.top rfl) hn hs
    have e0 : v = .ref a := e0
    subst e0
    refine ⟨a, rfl, ?_⟩
    cases t with
    | false => exact .inl ⟨⟨xs, same_l S1.bh h1⟩, q _ H1 ds g1 B1 al1 hk1 (S1.temps fun p hp => List.mem_cons_of_mem _ hp) (walk_l h1 h2)⟩
    | true => exact .inr ⟨⟨xs, same_t S1.bh h1⟩, q _ H1 ds g1 B1 al1 hk1 (S1.temps fun p hp => List.mem_cons_of_mem _ hp) (walk_t h1 h2)⟩⟩
end
abbrev IKs := List (Key × PyData)
theorem app_ok {α β : Type} {F : α → β → Prop} : ∀ {us us' : List α} {ks ks' : List β}, Paired F us ks → Paired F us' ks' → Paired F (us ++ us') (ks ++ ks')
  | _, _, _, _, .nil, h => h
  | _, _, _, _, .cons a b, h => .cons a (app_ok b h)
theorem fun_of {K : PySem.W.Frag} {x qual : Str} {st : Stmt} {f : Addr} {fd : FuncData} {kws : List (Str × V)} (F : FunD K x qual (defArgs st) (defBody st) (defScope st) [] kws f fd) : Fun K x qual st f fd := by
  obtain ⟨oc, od, dV, kV, doc, pm, an, cdv, ct, osl, rfl, lk, hcd, hD, hK⟩ := F.ex
  rcases hD with ⟨_, rfl⟩ | ⟨e, _⟩
  · exact ⟨⟨oc, od, kV, doc, pm, an, cdv, ct, osl, rfl, lk, hcd⟩, F.kp⟩
  · exact absurd rfl e
end DL
set_option Elab.async false
set_option linter.all false
set_option maxRecDepth 100000
set_option maxHeartbeats 4000000
set_option autoImplicit false
namespace DL
open PySem PySem.Spec PyProof.Rows L2
section
variable {ρ : Root} {X : Cx} {e : Expr} {es : List Expr} {p pos : Pos} {da : DA}
theorem pd_len (hc : X.calm = true) (hg : Gl X "len") (hm : X.mg "len" = none) (ha : PDA ρ X (e :: es) da) (he : starEach (e :: es) X.env = (false, eval e X.env) :: starEach es X.env := by rfl) (hpl : (backTo pos (starEach es X.env)).any (·.1) = false := by rfl) :
    PD ρ X (.Call (.Name "len" p) (e :: es) [] pos) (dCall cLen da) := pd_callB call_len_seq ref_len hg hm PySem.boot_len ha (by decide) (by decide) he hpl
theorem pd_abs (hc : X.calm = true) (hg : Gl X "abs") (hm : X.mg "abs" = none) (ha : PDA ρ X (e :: es) da) (he : starEach (e :: es) X.env = (false, eval e X.env) :: starEach es X.env := by rfl) (hpl : (backTo pos (starEach es X.env)).any (·.1) = false := by rfl) :
    PD ρ X (.Call (.Name "abs" p) (e :: es) [] pos) (dCall cAbs da) := pd_callB call_abs ref_abs hg hm (by decide +kernel) ha (by decide) (by decide) he hpl
theorem pd_min2 (hc : X.calm = true) (hg : Gl X "min") (hm : X.mg "min" = none) (ha : PDA ρ X (e :: es) da) (he : starEach (e :: es) X.env = (false, eval e X.env) :: starEach es X.env := by rfl) (hpl : (backTo pos (starEach es X.env)).any (·.1) = false := by rfl) :
    PD ρ X (.Call (.Name "min" p) (e :: es) [] pos) (dCall cMin2 da) := pd_callB (call_min2 hc) ref_min2 hg hm (by decide +kernel) ha (by decide) (by decide) he hpl
theorem pd_int1 (hc : X.calm = true) (hg : Gl X "int") (hm : X.mg "int" = none) (ha : PDA ρ X (e :: es) da) (he : starEach (e :: es) X.env = (false, eval e X.env) :: starEach es X.env := by rfl) (hpl : (backTo pos (starEach es X.env)).any (·.1) = false := by rfl) :
    PD ρ X (.Call (.Name "int" p) (e :: es) [] pos) (dCall cIntB da) := pd_callTy call_int1 ref_intB hg hm (by decide +kernel) ha (by decide) (by decide) he hpl
theorem pd_list1O (hc : X.calm = true) (hg : Gl X "list") (hm : X.mg "list" = none) (ha : PDA ρ X (e :: es) da) (he : starEach (e :: es) X.env = (false, eval e X.env) :: starEach es X.env := by rfl) (hpl : (backTo pos (starEach es X.env)).any (·.1) = false := by rfl) :
    PD ρ X (.Call (.Name "list" p) (e :: es) [] pos) (dCall cListO da) := pd_callTy call_list_of ref_listO hg hm (by decide +kernel) ha (by decide) (by decide) he hpl
theorem pd_tuple1 (hc : X.calm = true) (hg : Gl X "tuple") (hm : X.mg "tuple" = none) (ha : PDA ρ X (e :: es) da) (he : starEach (e :: es) X.env = (false, eval e X.env) :: starEach es X.env := by rfl) (hpl : (backTo pos (starEach es X.env)).any (·.1) = false := by rfl) :
    PD ρ X (.Call (.Name "tuple" p) (e :: es) [] pos) (dCall cTuple da) := pd_callTy call_tuple_of ref_tuple hg hm (by decide +kernel) ha (by decide) (by decide) he hpl
theorem pd_all1 (hc : X.calm = true) (hg : Gl X "all") (hm : X.mg "all" = none) (ha : PDA ρ X (e :: es) da) (he : starEach (e :: es) X.env = (false, eval e X.env) :: starEach es X.env := by rfl) (hpl : (backTo pos (starEach es X.env)).any (·.1) = false := by rfl) :
    PD ρ X (.Call (.Name "all" p) (e :: es) [] pos) (dCall cAll da) := pd_callB (cr_all hc) ref_all hg hm (by decide +kernel) ha (by decide) (by decide) he hpl
theorem pd_any1 (hc : X.calm = true) (hg : Gl X "any") (hm : X.mg "any" = none) (ha : PDA ρ X (e :: es) da) (he : starEach (e :: es) X.env = (false, eval e X.env) :: starEach es X.env := by rfl) (hpl : (backTo pos (starEach es X.env)).any (·.1) = false := by rfl) :
    PD ρ X (.Call (.Name "any" p) (e :: es) [] pos) (dCall cAny da) := pd_callB (cr_any hc) ref_any hg hm (by decide +kernel) ha (by decide) (by decide) he hpl
end
end DL
set_option Elab.async false
set_option linter.all false
set_option maxRecDepth 100000
set_option maxHeartbeats 4000000
set_option autoImplicit false
namespace DL
open PySem PySem.Spec PyProof.Rows L2
end DL
set_option Elab.async false
set_option linter.all false
set_option maxRecDepth 100000
set_option maxHeartbeats 4000000
set_option autoImplicit false
namespace DL
open PySem PySem.Spec PyProof.Rows L2
def ctTy : Option Ct → Option String
  | some (.lst _) => some "list"
  | some (.dK _) => some "dict"
  | some (.dT _) => some "dict"
  | _ => none
def tyOf (g : G) : R → Option String
  | .d .none => some "NoneType"
  | .d (.bool _) => some "bool"
  | .d (.int _) => some "int"
  | .d (.str _) => some "str"
  | .d (.list _) => some "list"
  | .d (.tuple _) => some "tuple"
  | .d (.dict _) => none
  | .s _ => some "list"
  | .o j => ctTy g.ce[j]?
  | _ => none
def isaB (a b : String) : Bool := a == b || (a == "bool" && b == "int")
theorem kit_all {K : PySem.W.Frag} {a b : String} (ha : a = "NoneType" ∨ a = "bool" ∨ a = "int" ∨ a = "str" ∨ a = "list" ∨ a = "tuple" ∨ a = "dict") (hb : b = "bool" ∨ b = "int" ∨ b = "str" ∨ b = "list" ∨ b = "tuple" ∨ b = "dict") : PySem.W.kitOne K (.type a) (.type b) = some (isaB a b) := by
  refine kit_ty ?_
  rcases ha with rfl | rfl | rfl | rfl | rfl | rfl | rfl <;> rcases hb with rfl | rfl | rfl | rfl | rfl | rfl <;> decide +kernel
theorem tyOf_names {g : G} {r : R} {t : String} (h : tyOf g r = some t) : t = "NoneType" ∨ t = "bool" ∨ t = "int" ∨ t = "str" ∨ t = "list" ∨ t = "tuple" ∨ t = "dict" := by
  cases r with
  | d x => cases x <;> simp [tyOf] at h <;> simp [← h]
  | s ns => simp [tyOf] at h; simp [← h]
  | x n => cases h
  | m ct => cases h
  | l js => cases h
  | f j ds => cases h
  | o j =>
    have h : ctTy g.ce[j]? = some t := h
    cases hc : g.ce[j]? with
    | none => rw [hc] at h; cases h
    | some ct => rw [hc] at h; cases ct <;> cases h <;> simp
theorem sqL_ty {K : PySem.W.Frag} {H : Hp} {a : Addr} {xs : List V} (h : SqL K H a xs) : TyX K H (.ref a) (.type "list") := by
  rcases h with (h | ⟨o, h⟩) | ⟨o, _, _, hl, hc, _⟩
  · exact .base (.lst h)
  · exact .base (.frz h)
  · exact .kList hl hc
theorem Stt.ty {K : KR} {F : Fm} {g : G} {tm : List (V × R)} {s : L2.St} {H B : Hp} {al : List Addr} (S : Stt K F g tm s H B al) {v : V} {r : R} {t : String} (hv : RvOk K B al v r) (h : tyOf g r = some t) : TyX K.fr H v (.type t) := by
  cases r with
  | x n => cases h
  | m ct => cases h
  | l js => cases h
  | f j ds => cases h
  | d x =>
    cases x with
    | none => cases h; rw [dq_none hv]; exact .base .non
    | bool b => cases h; rw [dq_bool hv]; exact .base (.bl b)
    | int b => cases h; rw [dq_int hv]; exact .base (.int b)
    | str b => cases h; rw [dq_str hv]; exact .base (.str b)
    | list ds =>
      cases h
      obtain ⟨a, xs, rfl, h1, _⟩ := dq_list hv
      exact .base (.lst (S.bh _ _ h1))
    | tuple ds =>
      cases h
      obtain ⟨a, xs, rfl, h1, _⟩ := dq_tup hv
      exact .base (.tup (S.bh _ _ h1))
    | dict _ => cases h
  | s ns =>
    cases h
    obtain ⟨a, rfl, h1⟩ := hv
    exact sqL_ty (same_l S.bh h1)
  | o j =>
    obtain ⟨a, ha, rfl⟩ := hv
    have h : ctTy g.ce[j]? = some t := h
    cases hc : g.ce[j]? with
    | none => rw [hc] at h; cases h
    | some ct =>
      rw [hc] at h
      cases ct with
      | dead => cases h
      | lst ds =>
        cases h
        obtain ⟨xs, h1, _⟩ := S.ce j a _ ha hc
        exact .base (.lst h1)
      | dK ds =>
        cases h
        obtain ⟨xs, h1, _⟩ := S.ce j a _ ha hc
        exact .base (.dK h1)
      | dT ds =>
        cases h
        obtain ⟨xs, h1, _⟩ := S.ce j a _ ha hc
        exact .base (.dT h1)
      | dN ds => cases h
      | dL ds => cases h
      | dF ds => cases h
section
variable {ρ : Root} {X : Cx} {e : Expr} {p p1 p2 p3 pos : Pos} {K : KR}
def dIsi (T : String) (de : DE) : DE := fun g k => de g fun r g1 => ∃ t, tyOf g1 r = some t ∧ k (.d (.bool (isaB t T))) g1
def dIsi2 (T U : String) (de : DE) : DE := fun g k => de g fun r g1 => ∃ t, tyOf g1 r = some t ∧ k (.d (.bool (isaB t T || isaB t U))) g1
def isTy (T : String) : Prop := T = "bool" ∨ T = "int" ∨ T = "str" ∨ T = "list" ∨ T = "tuple" ∨ T = "dict"
theorem pd_isi {x : Str} {T : String} {de : DE} (hT : isTy T) (hg : Gl X "isinstance") (hm : X.mg "isinstance" = none) (hgT : Gl X x) (hmT : X.mg x = none) (hv : bootBuiltins x = some (.type T)) (he : PD ρ X e de) (hn : x ≠ "__name__" := by decide) (hd : (x == ("__debug__" : Str)) = false := by decide)
    (hs : starEach [e, .Name x p1] X.env = (false, eval e X.env) :: starEach [.Name x p1] X.env := by rfl) :
    PD ρ X (.Call (.Name "isinstance" p) [e, .Name x p1] [] pos) (dIsi T de) :=
  pe_imp (pe_callB call_isi hg hm (by decide +kernel) (pa_cons he (pa_cons (pe_bltn (v := .ty T) hgT hmT hv rfl hn hd) pa_nil rfl) hs) (by decide) (by decide) hs rfl) fun s H Q ⟨F, g, tm, k, B, al, S, hk, q⟩ => ⟨F, g, tm, _, B, al, S, hk, fun v H1 r g1 B1 al1 ⟨t, ht, hk1⟩ S1 => by
    refine ⟨v, .ty T, .type t, .type T, isaB t T, rfl, .ty T, S1.ty (S1.top rfl) ht, kit_all (tyOf_names ht) hT, ?_⟩
    exact q _ H1 _ g1 B1 al1 hk1 ((S1.temps (tm' := tm) fun p hp => List.mem_cons_of_mem _ hp).push (.bl _))⟩
theorem pd_isi2 {x y : Str} {T U : String} {de : DE} {kt : Nat} (hT : isTy T) (hU : isTy U) (hg : Gl X "isinstance") (hm : X.mg "isinstance" = none) (hgT : Gl X x) (hmT : X.mg x = none) (hv : bootBuiltins x = some (.type T)) (hgU : Gl X y) (hmU : X.mg y = none) (hvU : bootBuiltins y = some (.type U)) (he : PD ρ X e de)
    (hn : x ≠ "__name__" := by decide) (hd : (x == ("__debug__" : Str)) = false := by decide) (hn' : y ≠ "__name__" := by decide) (hd' : (y == ("__debug__" : Str)) = false := by decide)
    (hs : starEach [e, .Tuple [.Name x p1, .Name y p2] kt p3] X.env = (false, eval e X.env) :: starEach [.Tuple [.Name x p1, .Name y p2] kt p3] X.env := by rfl) :
    PD ρ X (.Call (.Name "isinstance" p) [e, .Tuple [.Name x p1, .Name y p2] kt p3] [] pos) (dIsi2 T U de) :=
  pe_imp (pe_callB call_isiT hg hm (by decide +kernel) (pa_cons he (pa_cons (pe_tup (pa_cons (pe_bltn (v := .ty T) hgT hmT hv rfl hn hd) (pa_cons (pe_bltn (v := .ty U) hgU hmU hvU rfl hn' hd') pa_nil rfl) rfl)) pa_nil rfl) hs) (by decide) (by decide) hs rfl) fun s H Q ⟨F, g, tm, k, B, al, S, hk, q⟩ => ⟨F, g, tm, _, B, al, S, hk, fun v H1 r g1 B1 al1 ⟨t, ht, hk1⟩ S1 => by
    refine ⟨by show 2 ≤ sizeLine; decide, fun tp htp => ?_⟩
    have S2 := S1.grow (o := .tup [.ty T, .ty U]) htp
    have hty := S2.ty (S2.top rfl) ht
    have any : PySem.W.kitAny X.K (.type t) [.type T, .type U] = some (isaB t T || isaB t U) := by
      refine kitAny_cons (kit_all (tyOf_names ht) hT) (fun e1 => ?_) (fun e1 => by rw [e1]; rfl)
      refine kitAny_cons (kit_all (tyOf_names ht) hU) (fun e2 => ?_) (fun e2 => by rw [e1, e2]; rfl)
      rw [e1, e2]
      exact kitAny_nil
    refine ⟨v, tp, [.ty T, .ty U], .type t, [.type T, .type U], _, rfl, upd_same, .cons (.ty T) (.cons (.ty U) .nil), hty, any, ?_⟩
    exact q _ _ _ g1 _ al1 hk1 ((S2.temps (tm' := tm) fun p hp => List.mem_cons_of_mem _ hp).push (.bl _))⟩
end
end DL
set_option Elab.async false
set_option linter.all false
set_option maxRecDepth 100000
set_option maxHeartbeats 4000000
set_option autoImplicit false
namespace DLR
open PySem PySem.Spec PyProof.Rows HT
section
variable {prog : Program} {w : World} {A : Around} {E : Value → Shared → Prop} {s : Shared}
theorem places_rev (n : Nat) : Builtin.Slice.slicePlaces ((n : Int) - 1) (-1) (-1) = n := by
  unfold Builtin.Slice.slicePlaces
  have h1 : ¬ ((-1 : Int) > 0) := by omega
  simp only [h1, if_false]
  by_cases h : (n : Int) - 1 > -1
  · simp only [h, if_true]
    have : ((n : Int) - 1 - -1 - 1) / (- -1) + 1 = n := by
      rw [show (- -1 : Int) = 1 by decide, Int.ediv_one]; omega
    rw [this]; simp
  · simp only [h, if_false]; omega
theorem pick_rev (xs : Array Value) : ((List.range xs.size).filterMap fun (k : Nat) => xs[(((xs.size : Nat) : Int) - 1 + (k : Int) * -1).toNat]?).toArray = xs.toList.reverse.toArray := by
  congr 1
  have e : ∀ k ∈ List.range xs.size, xs[(((xs.size : Nat) : Int) - 1 + (k : Int) * -1).toNat]? = some (xs.toList.reverse.getD k .none) := fun k hk => by
    have hk := List.mem_range.mp hk
    rw [show (((xs.size : Nat) : Int) - 1 + (k : Int) * -1).toNat = xs.size - 1 - k by omega]
    rw [List.getD_eq_getElem?_getD, List.getElem?_reverse (by simpa using hk)]
    simp only [Array.length_toList, Array.getElem?_toList]
    rw [Array.getElem?_eq_getElem (by omega)]
    rfl
  have gen : ∀ (l : List Nat) (f : Nat → Option Value) (g : Nat → Value), (∀ k ∈ l, f k = some (g k)) → l.filterMap f = l.map g := by
    intro l f g
    induction l with
    | nil => intro _; rfl
    | cons a l ih => intro h; rw [List.filterMap_cons, h a List.mem_cons_self, ih fun k hk => h k (List.mem_cons_of_mem _ hk)]; rfl
  rw [gen _ _ _ e]
  apply List.ext_getElem
  · simp
  · intro i h1 h2
    rw [List.getElem_map, List.getElem_range, List.getD_eq_getElem?_getD, List.getElem?_eq_getElem h2]
    rfl
theorem getItem_tuple_rev {t sl : Addr} {items : Array Value} {vs : Value} {Q : Value → Shared → Prop} (ht : IsTup s.heap t items) (hs : s.heap.IsSliceOf sl .none .none vs) (ps : IsPart vs (some (-1)))
    (h : Q (.ref s.heap.objs.size) { s with heap := s.heap.push { cls := .type "tuple", data := .seq items.toList.reverse.toArray } })
    (hsz : items.size ≤ sizeLine) : wpAny (model prog w) A (getItem (.ref t) (.ref sl)) Q E s := by
  have htake : sizeOk (.seq items.toList.reverse.toArray) := by
    show items.toList.reverse.toArray.size ≤ sizeLine
    rw [List.size_toArray, List.length_reverse, Array.length_toList]
    exact hsz
  obtain ⟨os, hos, hcs, hds⟩ := id hs
  have hTs : s.TypeIs (.ref sl) "slice" := ⟨os, hos, hcs⟩
  unfold getItem
  try with_reducible refine wpAny_holding ?_
  first | refine wpAny_bind (wpAny_pure ?_) | skip
  refine wpAny_bind (wpAny_sequenceKey ht.typeIs (by decide) ?_)
  refine wpAny_bind (wpAny_callSpecial?_slot (name := Str.ofString "__getitem__") ht.typeIs PyProof.Rows.slot_tuple_getitem
    (wpAny_call_entry PyProof.Rows.slot_tuple_getitem ht.typeIs entry_tuple_getitem ?_ (args_tuple_getitem _ _)))
  show wpAny _ _ (Builtin.Tuple.tupleItemsOf (.ref t) >>= _) _ _ s
  refine wpAny_bind (tupleItemsOf_ ht ?_)
  refine wpAny_bind (wpAny_typeOf hTs ?_)
  rw [if_pos (by decide)]
  refine wpAny_bind ?_
  unfold Builtin.Slice.sliceApplied Builtin.Slice.sliceFields
  refine wpAny_bind (wpAny_bind (wpAny_field hos hds (x := .none) rfl (wpAny_bind (wpAny_field hos hds (x := .none) rfl (wpAny_bind (wpAny_field hos hds (x := vs) rfl (wpAny_pure ?_)))))))
  refine wpAny_bind (slicePart_ ps ?_)
  show wpAny _ _ (if ((-1 : Int) == 0) = true then _ else _) _ _ s
  rw [if_neg (by decide)]
  refine wpAny_bind (slicePart_none (wpAny_bind (slicePart_none (wpAny_bind (wpAny_pure ?_)))))
  show wpAny _ _ (pure (((items.size : Nat) : Int) - 1, (-1 : Int), Builtin.Slice.slicePlaces (((items.size : Nat) : Int) - 1) (-1) (-1))) _ _ s
  rw [places_rev]
  refine wpAny_pure ?_
  show wpAny _ _ (if (((items.size : Nat) : Int) - 1 == 0 && (-1 : Int) == 1 && items.size == items.size) = true then _ else _) _ _ s
  rw [if_neg (by simp), pick_rev]
  first
    | exact wpAny_bind (m := Builtin.Tuple.tupleExact _) (wpAny_newObj_type (wpAny_pure ⟨_, rfl, wpAny_pure h⟩) htake)
    | exact wpAny_bind (m := Builtin.Tuple.tupleExact _) (wpAny_newObj_type (wpAny_bind (wpAny_pure (wpAny_pure ⟨_, rfl, wpAny_pure h⟩))) htake)
    | exact wpAny_bind (wpAny_bind (m := Builtin.Tuple.tupleExact _) (wpAny_newObj_type (wpAny_pure (wpAny_pure ⟨_, rfl, wpAny_pure h⟩)) htake))
    | exact wpAny_bind (wpAny_bind (m := Builtin.Tuple.tupleExact _) (wpAny_newObj_type (wpAny_pure ⟨_, rfl, wpAny_pure h⟩) htake))
end
end DLR
namespace DL
open PySem PySem.Spec PyProof.Rows L2
section
variable {X : Cx}
def tRevB (K : PySem.W.Frag) (te : TE) : TE := fun σ H Q => te σ H fun x H1 => (∃ a xs, x = .ref a ∧ SqL K H1 a xs ∧ ∀ p, H1 p = none → Q (.ref p) (upd H1 p (.lst xs.reverse))) ∨ ∃ a xs, x = .ref a ∧ SqT K H1 a xs ∧ ∀ p, H1 p = none → Q (.ref p) (upd H1 p (.tup xs.reverse))
theorem pe_revB {e : Expr} {te : TE} {k : Nat} {p1 p2 p3 pos : Pos} (he : PE X e te) : PE X (.Subscript e (.Slice none none (some (.UnaryOp .USub (.Constant (.int 1) k p1) p2)) p3) pos) (tRevB X.K te) := by
  refine ⟨fun pins s σ H Q I h => ?_⟩
  refine Subscript_ (thn (he.run pins s σ H _ I h) fun v s1 ⟨x, H1, I1, r1, q1⟩ => ?_)
  have hst : PO X (some (.UnaryOp .USub (.Constant (.int 1) k p1) p2)) (tPart (tUn (rU fun i => .int (-i)) (tC (.int 1)))) := po_some (pe_un un_neg pe_int)
  refine wpAny_Slice (thn (po_none.run pins s1 σ H1 (fun o H2 => o = none ∧ H2 = H1) I1 ⟨rfl, rfl⟩) fun vl s2 ⟨l, H2, I2, pl, el, e2⟩ => ?_)
  subst el e2
  refine thn (po_none.run pins s2 σ H2 (fun o H3 => o = none ∧ H3 = H2) I2 ⟨rfl, rfl⟩) fun vu s3 ⟨u, H3, I3, pu, eu, e3⟩ => ?_
  subst eu e3
  refine thn (hst.run pins s3 σ H3 (fun o H4 => o = some (-1) ∧ H4 = H3) I3 ⟨1, rfl, -1, rfl, rfl, rfl⟩) fun vs s4 ⟨o, H4, I4, ps, eo, e4⟩ => ?_
  subst eo e4
  have I5 : Inv X pins σ H4 { s4 with heap := s4.heap.push { cls := .type "slice", data := .fields #[vl, vu, vs] } } := I4.kept (t' := s4.toks) fun b ob q => Heap.get?_push_of_some _ q
  rcases q1 with ⟨a, xs, ex, hx, q⟩ | ⟨a, xs, ex, hx, q⟩
  · subst ex
    cases r1
    obtain ⟨its, r, ht, hz⟩ := I5.list hx
    have hlen := r.length
    show wpAny (model X.prog X.w) X.A (subscriptTail e (.Slice none none (some (.UnaryOp .USub (.Constant (.int 1) k p1) p2)) p3) (.ref a) (.ref s4.heap.objs.size)) (EP X pins σ Q) X.xe { s4 with heap := s4.heap.push { cls := .type "slice", data := .fields #[vl, vu, vs] } }
    refine tail_any (ops := [.ref a, .ref s4.heap.objs.size]) ht.isList.typeIs (PySem.slot_list_getitem.lookup) ?_ (by with_unfolding_all rfl)
    refine wpAny_getItem_list_slice ht.isList (Heap.IsSliceOf.new _ vl vu vs) pl pu ps (by decide) ?_ (by rw [List.size_toArray]; omega)
    rw [PySem.W.krv_pick]
    refine ⟨.ref _, _, I5.laid (t' := s4.toks) (o := .lst xs.reverse) (fun b ob q => Heap.get?_push_of_some _ q) (Nat.le_refl _) ?_, rfl, q _ (I5.hok.fresh (Nat.le_refl _))⟩
    exact ⟨by rw [List.length_reverse]; exact hz, _, 0, r.reverse, Heap.get?_push_size _ rfl⟩
  · subst ex
    cases r1
    obtain ⟨its, r, ht, hz⟩ := I5.tuple hx
    have hlen := r.length
    show wpAny (model X.prog X.w) X.A (subscriptTail e (.Slice none none (some (.UnaryOp .USub (.Constant (.int 1) k p1) p2)) p3) (.ref a) (.ref s4.heap.objs.size)) (EP X pins σ Q) X.xe { s4 with heap := s4.heap.push { cls := .type "slice", data := .fields #[vl, vu, vs] } }
    refine tail_any (ops := [.ref a, .ref s4.heap.objs.size]) ht.typeIs (PyProof.Rows.slot_tuple_getitem.lookup) ?_ (by with_unfolding_all rfl)
    cases pl
    cases pu
    refine DLR.getItem_tuple_rev ht (Heap.IsSliceOf.new _ _ _ vs) ps ?_ (by rw [List.size_toArray]; omega)
    refine ⟨.ref _, _, I5.laid (t' := s4.toks) (o := .tup xs.reverse) (fun b ob q => Heap.get?_push_of_some _ q) (Nat.le_refl _) ?_, rfl, q _ (I5.hok.fresh (Nat.le_refl _))⟩
    exact ⟨by rw [List.length_reverse]; exact hz, _, r.reverse, ⟨_, Heap.get?_push_size _ rfl, rfl, 0, rfl⟩⟩
end
section
variable {ρ : Root} {X : Cx} {e : Expr} {pos : Pos}
def dRevB (de : DE) : DE := fun g k => de g fun r g1 => ∃ t ds, seqOf g1 r = some (t, ds) ∧ k (.d (if t then .tuple ds.reverse else .list ds.reverse)) g1
theorem pd_revB {de : DE} {kk : Nat} {p1 p2 p3 : Pos} (he : PD ρ X e de) : PD ρ X (.Subscript e (.Slice none none (some (.UnaryOp .USub (.Constant (.int 1) kk p1) p2)) p3) pos) (dRevB de) :=
  pe_imp (pe_revB he) fun s H Q ⟨F, g, tm, k, B, al, S, hk, q⟩ => ⟨F, g, tm, _, B, al, S, hk, fun v H1 r g1 B1 al1 ⟨t, ds, e, hk1⟩ S1 => by
    obtain ⟨a, xs, rfl, h1, h2⟩ := S1.seq (S1.top rfl) e
    have S2 := S1.temps (tm' := tm) fun p hp => List.mem_cons_of_mem _ hp
    cases t with
    | false => exact .inl ⟨a, xs, rfl, h1, fun p hp => new_l S2 hp (dqall_rev h2) hk1 fun v H' r g' B' al' hr S' rv => q v H' r g' B' al' hr (S'.push rv)⟩
    | true => exact .inr ⟨a, xs, rfl, h1, fun p hp => new_t S2 hp (dqall_rev h2) hk1 fun v H' r g' B' al' hr S' rv => q v H' r g' B' al' hr (S'.push rv)⟩⟩
end
end DL
set_option Elab.async false
set_option linter.all false
set_option maxRecDepth 100000
set_option maxHeartbeats 4000000
set_option autoImplicit false
namespace DL
open PySem PySem.Spec PyProof.Rows L2
/-- the pairs (0, x), (1, y), .. -/
def enumD (ds : List PyData) : List PyData := ds.mapIdx fun i x => .tuple [.int (i : Nat), x]
end DL
set_option Elab.async false
set_option linter.all false
set_option maxRecDepth 100000
set_option maxHeartbeats 4000000
set_option autoImplicit false
namespace DL
open PySem PySem.Spec PyProof.Rows L2
inductive Out (α : Type) where
  | ok (a : α) (g : G)
  | ex (n : Xn) (g : G)
  | no
inductive Fl where
  | nx
  | rt (r : R)
  | bk
  | ct
abbrev FE := G → Out R
abbrev FT := G → Out Bool
abbrev FAr := G → Out (List R)
abbrev FI := G → Out (List PyData)
abbrev FO := G → Out (Option Int)
abbrev FS := G → Out Fl
abbrev FG := R → G → Out Unit
abbrev FGs := List R → G → Out Unit
abbrev DX := Xn → G → Prop
def Out.go {α : Type} (dx : DX) (k : α → G → Prop) : Out α → Prop
  | .ok a g => k a g
  | .ex n g => dx n g
  | .no => False
def Out.bind {α β : Type} (o : Out α) (f : α → G → Out β) : Out β := match o with
  | .ok a g => f a g
  | .ex n g => .ex n g
  | .no => .no
@[simp] theorem bind_ok {α β : Type} (a : α) (g : G) (f : α → G → Out β) : (Out.ok a g).bind f = f a g := id rfl
@[simp] theorem bind_ex {α β : Type} (n : Xn) (g : G) (f : α → G → Out β) : (Out.ex n g : Out α).bind f = .ex n g := id rfl
@[simp] theorem bind_no {α β : Type} (f : α → G → Out β) : (Out.no : Out α).bind f = .no := id rfl
theorem go_bind {α β : Type} {dx : DX} {k : β → G → Prop} {o : Out α} {f : α → G → Out β} : (o.bind f).go dx k ↔ o.go dx fun a g => (f a g).go dx k := by
  cases o <;> exact Iff.rfl
theorem go_mono {α : Type} {dx : DX} {k k' : α → G → Prop} {o : Out α} (h : o.go dx k) (i : ∀ a g, k a g → k' a g) : o.go dx k' := by
  cases o with
  | ok a g => exact i a g h
  | ex n g => exact h
  | no => exact h
def ofO {α : Type} (o : Option α) (g : G) : Out α := match o with
  | some a => .ok a g
  | none => .no
@[simp] theorem ofO_some {α : Type} (a : α) (g : G) : ofO (some a) g = .ok a g := id rfl
theorem go_ofO {α : Type} {dx : DX} {k : α → G → Prop} {o : Option α} {g : G} (h : (ofO o g).go dx k) : ∃ a, o = some a ∧ k a g := by
  cases o with
  | none => exact h.elim
  | some a => exact ⟨a, rfl, h⟩
/-- what a function says, told over data -/
def rd {α : Type} (dx : DX) (f : G → Out α) : G → (α → G → Prop) → Prop := fun g k => (f g).go dx k
def flK (E : DEnds) : Fl → G → Prop
  | .nx => E.nx
  | .rt r => E.rt r
  | .bk => E.bk
  | .ct => E.ct
def rS (dx : DX) (f : FS) : DS := fun E g => (f g).go dx (flK E)
def rG (dx : DX) (f : FG) : DG := fun r g k => (f r g).go dx fun _ => k
def rGs (dx : DX) (f : FGs) : DGs := fun r g k => (f r g).go dx fun _ => k
section
variable {ρ : Root} {X : Cx} {e : Expr} {es : List Expr} {pos : Pos}
theorem pd_mono {d d' : DE} (h : PD ρ X e d) (i : ∀ g k, d' g k → d g k) : PD ρ X e d' := pe_imp h fun s H Q ⟨F, g, tm, k, B, al, S, hk, q⟩ => ⟨F, g, tm, k, B, al, S, i g k hk, q⟩
theorem pdt_mono {d d' : DT} (h : PDT ρ X e d) (i : ∀ g k, d' g k → d g k) : PDT ρ X e d' := pt_imp h fun s H Q ⟨F, g, tm, k, B, al, S, hk, q⟩ => ⟨F, g, tm, k, B, al, S, i g k hk, q⟩
theorem pdw_mono {d d' : DT} (h : PDW ρ X e d) (i : ∀ g k, d' g k → d g k) : PDW ρ X e d' := pw_imp h fun s H Q ⟨F, g, tm, k, B, al, S, hk, q⟩ => ⟨F, g, tm, k, B, al, S, i g k hk, q⟩
theorem pdts_mono {d d' : DT} (h : PDTs ρ X es d) (i : ∀ g k, d' g k → d g k) : PDTs ρ X es d' := pts_imp h fun s H Q ⟨F, g, tm, k, B, al, S, hk, q⟩ => ⟨F, g, tm, k, B, al, S, i g k hk, q⟩
theorem pda_mono {d d' : DA} (h : PDA ρ X es d) (i : ∀ g k, d' g k → d g k) : PDA ρ X es d' := pa_imp h fun s H Q ⟨F, g, tm, k, B, al, S, hk, q⟩ => ⟨F, g, tm, k, B, al, S, i g k hk, q⟩
theorem pdo_mono {o : Option Expr} {d d' : DO} (h : PDO ρ X o d) (i : ∀ g k, d' g k → d g k) : PDO ρ X o d' := po_imp h fun s H Q ⟨F, g, tm, k, B, al, S, hk, q⟩ => ⟨F, g, tm, k, B, al, S, i g k hk, q⟩
theorem pdi_mono {tg : Expr} {d d' : DI} (h : PDI ρ X tg e d) (i : ∀ g k, d' g k → d g k) : PDI ρ X tg e d' := pi_imp h fun s H Q ⟨F, g, tm, k, B, al, S, hk, q⟩ => ⟨F, g, tm, k, B, al, S, i g k hk, q⟩
theorem pds_mono {st : Stmt} {d d' : DS} (h : PDS ρ X st d) (i : ∀ E g, d' E g → d E g) : PDS ρ X st d' := ps_imp h fun D s H ⟨F, g, tm, E, B, al, S, hk, q⟩ => ⟨F, g, tm, E, B, al, S, i E g hk, q⟩
theorem pdss_mono {st : List Stmt} {d d' : DS} (h : PDSs ρ X st d) (i : ∀ E g, d' E g → d E g) : PDSs ρ X st d' := pss_imp h fun D s H ⟨F, g, tm, E, B, al, S, hk, q⟩ => ⟨F, g, tm, E, B, al, S, i E g hk, q⟩
theorem pdg_mono {ws : List Nat} {d d' : DG} (h : PDG ρ X ws e d) (i : ∀ r g k, d' r g k → d r g k) : PDG ρ X ws e d' := pg_imp h fun v s H Q ⟨F, g, tm, r, k, B, al, S, hv, hk, q⟩ => ⟨F, g, tm, r, k, B, al, S, hv, i r g k hk, q⟩
theorem pdgs_mono {ws : List Nat} {d d' : DGs} (h : PDGs ρ X ws es d) (i : ∀ r g k, d' r g k → d r g k) : PDGs ρ X ws es d' := pgs_imp h fun v s H Q ⟨F, g, tm, r, k, B, al, S, hv, hk, q⟩ => ⟨F, g, tm, r, k, B, al, S, hv, i r g k hk, q⟩
end
def asInts : List PyData → Option (List Int)
  | [] => some []
  | .int i :: r => (asInts r).map (i :: ·)
  | _ => none
@[simp] theorem asInts_map (ns : List Int) : asInts (ns.map .int) = some ns := by
  induction ns with
  | nil => rfl
  | cons n ns ih => simp only [List.map_cons, asInts, ih, Option.map_some]
theorem asInts_eq : ∀ {ds : List PyData} {ns : List Int}, asInts ds = some ns → ds = ns.map .int
  | [], ns, h => by cases h; rfl
  | .int i :: r, ns, h => by
    simp only [asInts] at h
    cases hr : asInts r with
    | none => rw [hr] at h; cases h
    | some ms => rw [hr] at h; cases h; rw [asInts_eq hr]; rfl
  | .none :: _, _, h => by cases h
  | .bool _ :: _, _, h => by cases h
  | .str _ :: _, _, h => by cases h
  | .list _ :: _, _, h => by cases h
  | .tuple _ :: _, _, h => by cases h
  | .dict _ :: _, _, h => by cases h
def asBools : List PyData → Option (List Bool)
  | [] => some []
  | .bool i :: r => (asBools r).map (i :: ·)
  | _ => none
@[simp] theorem asBools_map (ns : List Bool) : asBools (ns.map .bool) = some ns := by
  induction ns with
  | nil => rfl
  | cons n ns ih => simp only [List.map_cons, asBools, ih, Option.map_some]
theorem asBools_eq : ∀ {ds : List PyData} {ns : List Bool}, asBools ds = some ns → ds = ns.map .bool
  | [], ns, h => by cases h; rfl
  | .bool i :: r, ns, h => by
    simp only [asBools] at h
    cases hr : asBools r with
    | none => rw [hr] at h; cases h
    | some ms => rw [hr] at h; cases h; rw [asBools_eq hr]; rfl
  | .none :: _, _, h => by cases h
  | .int _ :: _, _, h => by cases h
  | .str _ :: _, _, h => by cases h
  | .list _ :: _, _, h => by cases h
  | .tuple _ :: _, _, h => by cases h
  | .dict _ :: _, _, h => by cases h
def asData : List R → Option (List PyData)
  | [] => some []
  | .d x :: r => (asData r).map (x :: ·)
  | _ => none
@[simp] theorem asData_map (ns : List PyData) : asData (ns.map .d) = some ns := by
  induction ns with
  | nil => rfl
  | cons n ns ih => simp only [List.map_cons, asData, ih, Option.map_some]
theorem asData_eq : ∀ {ds : List R} {ns : List PyData}, asData ds = some ns → ds = ns.map .d
  | [], ns, h => by cases h; rfl
  | .d i :: r, ns, h => by
    simp only [asData] at h
    cases hr : asData r with
    | none => rw [hr] at h; cases h
    | some ms => rw [hr] at h; cases h; rw [asData_eq hr]; rfl
  | .o _ :: _, _, h => by cases h
  | .s _ :: _, _, h => by cases h
  | .x _ :: _, _, h => by cases h
  | .m _ :: _, _, h => by cases h
  | .l _ :: _, _, h => by cases h
  | .f _ _ :: _, _, h => by cases h
abbrev Op2 := G → R → R → Option R
def onI (f : Int → Int → Option PyData) : Op2 := fun _ r1 r2 => match r1, r2 with
  | .d (.int i), .d (.int j) => (f i j).map .d
  | _, _ => none
theorem onI_eq {f : Int → Int → Option PyData} {g : G} {r1 r2 r : R} (h : onI f g r1 r2 = some r) : ∃ i j x, r1 = .d (.int i) ∧ r2 = .d (.int j) ∧ f i j = some x ∧ r = .d x := by
  unfold onI at h
  split at h
  · rename_i i j
    cases hf : f i j with
    | none => rw [hf] at h; cases h
    | some x => rw [hf] at h; cases h; exact ⟨i, j, x, rfl, rfl, hf, rfl⟩
  · cases h
abbrev opSub : Op2 := onI fun i j => some (.int (i - j))
abbrev opLt : Op2 := onI fun i j => some (.bool (decide (i < j)))
abbrev opGt : Op2 := onI fun i j => some (.bool (decide (j < i)))
abbrev opGe : Op2 := onI fun i j => some (.bool (decide (j ≤ i)))
abbrev opMod : Op2 := onI fun i j => if 0 < j then some (.int (i % j)) else none
abbrev opDiv : Op2 := onI fun i j => if 0 < j ∧ j.natAbs.log2 < 9000 then some (.int (i / j)) else none
abbrev opPow : Op2 := onI fun i j => if 0 ≤ j ∧ j ≤ 1000000 ∧ i.natAbs < 2 ^ 64 then some (.int (i ^ j.toNat)) else none
def mulOk (i j : Int) : Bool := decide ((-(2 ^ 64) < i ∧ i < 2 ^ 64) ∨ (-(2 ^ 64) < j ∧ j < 2 ^ 64))
theorem mulOk_r {i j : Int} (h1 : -(2 ^ 64) < j) (h2 : j < 2 ^ 64) : mulOk i j = true := decide_eq_true (.inr ⟨h1, h2⟩)
theorem mulOk_l {i j : Int} (h1 : -(2 ^ 64) < i) (h2 : i < 2 ^ 64) : mulOk i j = true := decide_eq_true (.inl ⟨h1, h2⟩)
def opMul : Op2 := fun g r1 r2 => match r1, r2 with
  | .d (.int i), .d (.int j) => if mulOk i j then some (.d (.int (i * j))) else none
  | _, _ => none
/-- two lists that are made here -/
def cat2 (g : G) (r1 r2 : R) : Option (List PyData) := match seqOf g r1, seqOf g r2 with
  | some (false, xs), some (false, ys) => if isMade r1 && isMade r2 && decide (xs.length + ys.length ≤ 100000) then some (xs ++ ys) else none
  | _, _ => none
def opAdd : Op2 := fun g r1 r2 => match r1, r2 with
  | .d (.int i), .d (.int j) => some (.d (.int (i + j)))
  | .d (.tuple xs), .d (.tuple ys) => if xs.length + ys.length ≤ 100000 then some (.d (.tuple (xs ++ ys))) else none
  | r1, r2 => (cat2 g r1 r2).map fun l => .d (.list l)
def opEq : Op2 := fun g r1 r2 => match datOf g r1, datOf g r2 with
  | some x, some y => if SeqAt.shaped x && SeqAt.shaped y then some (.d (.bool (PyData.eqv x y))) else none
  | _, _ => none
def opNe : Op2 := fun g r1 r2 => match datOf g r1, datOf g r2 with
  | some x, some y => if SeqAt.shaped x && SeqAt.shaped y then some (.d (.bool (!PyData.eqv x y))) else none
  | _, _ => none
def isNR : R → Bool
  | .d x => isN x
  | _ => false
def opIsN : Op2 := fun _ r1 r2 => match r2 with
  | .d .none => some (.d (.bool (isNR r1)))
  | _ => none
def opNotN : Op2 := fun _ r1 r2 => match r2 with
  | .d .none => some (.d (.bool (!isNR r1)))
  | _ => none
def valP {κ : Type} [DecidableEq κ] : List (κ × PyData) → κ → Option PyData
  | [], _ => none
  | (q, x) :: r, k => if q = k then some x else valP r k
def putP {κ : Type} [DecidableEq κ] (kvs : List (κ × PyData)) (k : κ) (x : PyData) : List (κ × PyData) := if kvs.any (fun p => decide (p.1 = k)) = true then kvs.map (fun p => if p.1 = k then (p.1, x) else p) else kvs ++ [(k, x)]
def keyOf : PyData → Option Key
  | .int i => some (.inl i)
  | .str s => some (.inr s)
  | _ => none
def keysOf : List PyData → Option (List Key)
  | [] => some []
  | d :: ds => match keyOf d, keysOf ds with
    | some k, some ks => some (k :: ks)
    | _, _ => none
def tkeyOf : PyData → Option (List Key)
  | .tuple ds => keysOf ds
  | _ => none
def dictC : Ct → Bool
  | .dK _ => true
  | .dT _ => true
  | _ => false
def dictAt (g : G) : R → Option Ct
  | .o j => match g.ce[j]? with
    | some ct => if dictC ct then some ct else none
    | none => none
  | .m ct => if dictC ct then some ct else none
  | _ => none
/-- what stands at a key; none: no key of this dict's kind -/
def dGet (ct : Ct) (key : PyData) : Option (Option PyData) := match ct with
  | .dK kvs => (keyOf key).map (valP kvs)
  | .dT kvs => (tkeyOf key).map (valP kvs)
  | _ => none
def dPut (ct : Ct) (key x : PyData) : Option Ct := match ct with
  | .dK kvs => if kvs.length < 100000 then (keyOf key).map fun k => .dK (putP kvs k x) else none
  | .dT kvs => if kvs.length < 100000 then (tkeyOf key).map fun k => .dT (putP kvs k x) else none
  | _ => none
def opIx : Op2 := fun g r1 r2 => match r2 with
  | .d key => match dictAt g r1 with
    | some ct => match dGet ct key with
      | some (some x) => some (.d x)
      | _ => none
    | none => match key with
      | .int i => match seqOf g r1 with
        | some (_, ds) => (atI ds i).map .d
        | none => none
      | _ => none
  | _ => none
/-- x in xs -/
def inB (g : G) (r1 r2 : R) : Option Bool := match dictAt g r2 with
  | some ct => match r1 with
    | .d key => (dGet ct key).map (·.isSome)
    | _ => none
  | none => match datOf g r2 with
    | some (.list ds) => match datOf g r1 with
      | some d => if SeqAt.shaped d && SeqAt.shaped (.list ds) then some (ds.any fun z => PyData.eqv z d) else none
      | none => none
    | _ => match r1 with
      | .d (.int i) => match seqOf g r2 with
        | some (_, ds) => (asInts ds).map fun ns => decide (i ∈ ns)
        | none => none
      | _ => none
def opIn : Op2 := fun g r1 r2 => (inB g r1 r2).map fun b => .d (.bool b)
def opNotIn : Op2 := fun g r1 r2 => (inB g r1 r2).map fun b => .d (.bool (!b))
def fVar (i : Nat) : FE := fun g => match g.sl[i]? with
  | some (some r) => .ok r g
  | _ => .no
def fC (x : PyData) : FE := fun g => .ok (.d x) g
def fOp (op : Op2) (f1 f2 : FE) : FE := fun g => (f1 g).bind fun r1 g1 => (f2 g1).bind fun r2 g2 => ofO (op g2 r1 r2) g2
def fNeg (f : FE) : FE := fun g => (f g).bind fun r g1 => match r with
  | .d (.int i) => .ok (.d (.int (-i))) g1
  | _ => .no
def fAnd (f1 f2 : FE) : FE := fun g => (f1 g).bind fun r g1 => match r with
  | .d (.bool c) => if c = true then f2 g1 else .ok (.d (.bool false)) g1
  | _ => .no
def fOr (f1 f2 : FE) : FE := fun g => (f1 g).bind fun r g1 => match r with
  | .d (.bool c) => if c = true then .ok (.d (.bool true)) g1 else f2 g1
  | _ => .no
def fNot (f : FE) : FE := fun g => (f g).bind fun r g1 => match r with
  | .d (.bool c) => .ok (.d (.bool (!c))) g1
  | _ => .no
def fTst (f : FE) : FT := fun g => (f g).bind fun r g1 => match r with
  | .d (.bool c) => .ok c g1
  | _ => .no
def fAndT (t u : FT) : FT := fun g => (t g).bind fun c g1 => if c = true then u g1 else .ok false g1
def fOrT (t u : FT) : FT := fun g => (t g).bind fun c g1 => if c = true then .ok true g1 else u g1
def fNotT (t : FT) : FT := fun g => (t g).bind fun c g1 => .ok (!c) g1
def fYes : FT := fun g => .ok true g
def fIf (t : FT) (a b : FE) : FE := fun g => (t g).bind fun c g1 => if c = true then a g1 else b g1
def fChain (o1 o2 : Op2) (fa fb fc : FE) : FE := fun g => (fa g).bind fun r1 g1 => (fb g1).bind fun r2 g2 => match o1 g2 r1 r2 with
  | some (.d (.bool c)) => if c = true then (fc g2).bind fun r4 g4 => ofO (o2 g4 r2 r4) g4 else .ok (.d (.bool false)) g2
  | _ => .no
def fNil : FAr := fun g => .ok [] g
def fCons (f : FE) (fs : FAr) : FAr := fun g => (f g).bind fun r g1 => (fs g1).bind fun rs g2 => .ok (r :: rs) g2
def fTup (fs : FAr) : FE := fun g => (fs g).bind fun rs g1 => match asData rs with
  | some ds => if ds.length ≤ 100000 then .ok (.d (.tuple ds)) g1 else .no
  | none => .no
def fLst (fs : FAr) : FE := fun g => (fs g).bind fun rs g1 => match asData rs with
  | some ds => if ds.length ≤ 100000 then .ok (.d (.list ds)) g1 else .no
  | none => .no
def newO (ct : Ct) (g : G) : Out R := .ok (.o g.ce.length) { g with ce := g.ce ++ [ct] }
def fLstO (fs : FAr) : FE := fun g => (fs g).bind fun rs g1 => match asData rs with
  | some ds => if ds.length ≤ 100000 then newO (.lst ds) g1 else .no
  | none => .no
def fDict0 : FE := fun g => newO (.dK []) g
def fDict0T : FE := fun g => newO (.dT []) g
def fNoP : FO := fun g => .ok none g
def fPart (f : FE) : FO := fun g => (f g).bind fun r g1 => match r with
  | .d (.int i) => .ok (some i) g1
  | _ => .no
def fSl (f : FE) (fl fh : FO) : FE := fun g => (f g).bind fun r g1 => (fl g1).bind fun lo g2 => (fh g2).bind fun hi g3 => match seqOf g3 r with
  | some (t, ds) => .ok (.d (if t then .tuple (cut ds lo hi) else .list (cut ds lo hi))) g3
  | none => .no
def fRev (f : FE) : FE := fun g => (f g).bind fun r g1 => match seqOf g1 r with
  | some (t, ds) => .ok (.d (if t then .tuple ds.reverse else .list ds.reverse)) g1
  | none => .no
/-- built-ins by values -/
abbrev Cl := G → List R → Option R
def fCl (c : Cl) (fs : FAr) : FE := fun g => (fs g).bind fun rs g1 => ofO (c g1 rs) g1
def clLen : Cl := fun g rs => match rs with
  | [r] => match seqOf g r with
    | some (_, ds) => some (.d (.int ds.length))
    | none => none
  | _ => none
def clAbs : Cl := fun _ rs => match rs with
  | [.d (.int i)] => some (.d (.int (if i < 0 then -i else i)))
  | _ => none
def clMax : Cl := fun _ rs => match rs with
  | [.d (.int i), .d (.int j)] => some (.d (.int (if j > i then j else i)))
  | _ => none
def clMin : Cl := fun _ rs => match rs with
  | [.d (.int i), .d (.int j)] => some (.d (.int (if j < i then j else i)))
  | _ => none
def clInt : Cl := fun _ rs => match rs with
  | [.d (.bool b)] => some (.d (.int (if b then 1 else 0)))
  | _ => none
def clList : Cl := fun g rs => match rs with
  | [r] => match seqOf g r with
    | some (_, ds) => some (.d (.list ds))
    | none => none
  | _ => none
def clTuple : Cl := fun g rs => match rs with
  | [r] => match seqOf g r with
    | some (_, ds) => some (.d (.tuple ds))
    | none => none
  | _ => none
def clAll : Cl := fun g rs => match rs with
  | [r] => match seqOf g r with
    | some (false, ds) => (asBools ds).map fun bs => .d (.bool (bs.all id))
    | _ => none
  | _ => none
def clAny : Cl := fun g rs => match rs with
  | [r] => match seqOf g r with
    | some (false, ds) => (asBools ds).map fun bs => .d (.bool (bs.any id))
    | _ => none
  | _ => none
def clSum : Cl := fun g rs => match rs with
  | [r] => match seqOf g r with
    | some (false, ds) => (asInts ds).map fun bs => .d (.int bs.sum)
    | _ => none
  | _ => none
def asKeys : IKs → Option (List Int)
  | [] => some []
  | (Sum.inl i, _) :: r => (asKeys r).map (i :: ·)
  | _ => none
def clSorted : Cl := fun g rs => match rs with
  | [r] => match dictAt g r with
    | some (.dK kvs) => match asKeys kvs with
      | some ks => if ks.length < 64 then some (.d (.list ((srt ks).map .int))) else none
      | none => none
    | some _ => none
    | none => match seqOf g r with
      | some (_, ds) => (asInts ds).map fun ns => .d (.list ((srt ns).map .int))
      | none => none
  | _ => none
def fListO (fs : FAr) : FE := fun g => (fs g).bind fun rs g1 => match rs with
  | [r] => match seqOf g1 r with
    | some (_, ds) => newO (.lst ds) g1
    | none => .no
  | _ => .no
def fIsi (T : String) (f : FE) : FE := fun g => (f g).bind fun r g1 => match tyOf g1 r with
  | some t => .ok (.d (.bool (isaB t T))) g1
  | none => .no
def fIsi2 (T U : String) (f : FE) : FE := fun g => (f g).bind fun r g1 => match tyOf g1 r with
  | some t => .ok (.d (.bool (isaB t T || isaB t U))) g1
  | none => .no
/-- methods of lists -/
abbrev Mt := G → R → List R → Option (R × G)
def ofM (o : Option (R × G)) : Out R := match o with
  | some (r, g) => .ok r g
  | none => .no
@[simp] theorem ofM_some (r : R) (g : G) : ofM (some (r, g)) = .ok r g := id rfl
def isLst (g : G) (r : R) : Bool := match seqOf g r with
  | some (false, _) => true
  | _ => false
def fMt (m : Mt) (f : FE) (fs : FAr) : FE := fun g => (f g).bind fun r g1 => if isLst g1 r then (fs g1).bind fun rs g2 => ofM (m g2 r rs) else .no
def putC (g : G) (j : Nat) (ct : Ct) : G := { g with ce := g.ce.set j ct }
def onL (f : List PyData → Option (R × List PyData)) (g : G) (r : R) : Option (R × G) := match r with
  | .o j => match g.ce[j]? with
    | some (.lst ds) => (f ds).map fun p => (p.1, putC g j (.lst p.2))
    | _ => none
  | _ => none
theorem onL_eq {f : List PyData → Option (R × List PyData)} {g g' : G} {r q : R} (h : onL f g r = some (q, g')) : ∃ j ds es, r = .o j ∧ g.ce[j]? = some (.lst ds) ∧ f ds = some (q, es) ∧ g' = putC g j (.lst es) := by
  unfold onL at h
  split at h
  · rename_i j
    split at h
    · rename_i ds e
      cases hf : f ds with
      | none => rw [hf] at h; cases h
      | some p => rw [hf] at h; cases h; exact ⟨j, ds, p.2, rfl, e, hf, rfl⟩
    · cases h
  · cases h
def mtAppend : Mt := fun g r rs => match rs with
  | [.d x] => onL (fun ds => if ds.length < 100000 then some (.d .none, ds ++ [x]) else none) g r
  | _ => none
def mtInsert : Mt := fun g r rs => match rs with
  | [.d (.int i), .d x] => onL (fun ds => if ds.length < 100000 ∧ 0 ≤ i ∧ i < 2 ^ 63 then some (.d .none, ds.take i.toNat ++ [x] ++ ds.drop i.toNat) else none) g r
  | _ => none
def popL (i : Int) (ds : List PyData) : Option (R × List PyData) := if -(2 ^ 63) ≤ i ∧ i < 2 ^ 63 then match seqIndex? i ds.length with
  | some n => match ds[n]? with
    | some x => some (.d x, ds.eraseIdx n)
    | none => none
  | none => none else none
def mtPop : Mt := fun g r rs => match rs with
  | [.d (.int i)] => onL (popL i) g r
  | _ => none
def mtExtend : Mt := fun g r rs => match rs with
  | [r1] => match seqOf g r1 with
    | some (false, es) => if isMade r1 then onL (fun ds => if ds.length + es.length ≤ 100000 then some (.d .none, ds ++ es) else none) g r else none
    | _ => none
  | _ => none
def mtIndex : Mt := fun g r rs => match rs with
  | [r1] => match datOf g r, datOf g r1 with
    | some (.list ds), some d => if SeqAt.shaped (.list ds) && SeqAt.shaped d then (ds.findIdx? (fun z => PyData.eqv z d)).map fun n => (.d (.int (n : Nat)), g) else none
    | _, _ => none
  | _ => none
def tN (i : Nat) : FG := fun r g => .ok () { g with sl := g.sl.set i (some r) }
def tNil : FGs := fun rs g => match rs with
  | [] => .ok () g
  | _ => .no
def tCons (t : FG) (u : FGs) : FGs := fun rs g => match rs with
  | r :: rs => (t r g).bind fun _ g1 => u rs g1
  | [] => .no
def tTup (n : Nat) (t : FGs) : FG := fun r g => match r with
  | .d (.tuple ds) => if ds.length = n then t (ds.map .d) g else .no
  | _ => .no
def tSub (fo fi : FE) : FG := fun r g => (fo g).bind fun r1 g1 => (fi g1).bind fun r2 g2 => match r, r2 with
  | .d x, .d (.int i) => match onL (fun ds => (ixN ds.length i).map fun n => (.d .none, ds.set n x)) g2 r1 with
    | some (_, g3) => .ok () g3
    | none => .no
  | _, _ => .no
def sNx : FS := fun g => .ok .nx g
def sCt : FS := fun g => .ok .ct g
def sBk : FS := fun g => .ok .bk g
def sSq (a b : FS) : FS := fun g => (a g).bind fun f g1 => match f with
  | .nx => b g1
  | f => .ok f g1
def sEx (f : FE) : FS := fun g => (f g).bind fun _ g1 => .ok .nx g1
def sRt (f : FE) : FS := fun g => (f g).bind fun r g1 => .ok (.rt r) g1
def sRtN : FS := fun g => .ok (.rt (.d .none)) g
def sIte (t : FT) (a b : FS) : FS := fun g => (t g).bind fun c g1 => if c = true then a g1 else b g1
def sSet (f : FE) (t : FG) : FS := fun g => (f g).bind fun r g1 => (t r g1).bind fun _ g2 => .ok .nx g2
def sP2 (i j : Nat) (fs : FAr) : FS := fun g => (fs g).bind fun rs g1 => match rs with
  | [r1, r2] => .ok .nx { g1 with sl := (g1.sl.set i (some r1)).set j (some r2) }
  | _ => .no
def sP3 (i j l : Nat) (fs : FAr) : FS := fun g => (fs g).bind fun rs g1 => match rs with
  | [r1, r2, r3] => .ok .nx { g1 with sl := ((g1.sl.set i (some r1)).set j (some r2)).set l (some r3) }
  | _ => .no
def sAg (i : Nat) (o : Int → Int → Option Int) (f : FE) : FS := fun g => match g.sl[i]? with
  | some (some (.d (.int n))) => (f g).bind fun r g1 => match r with
    | .d (.int m) => match o n m with
      | some q => .ok .nx { g1 with sl := g1.sl.set i (some (.d (.int q))) }
      | none => .no
    | _ => .no
  | _ => .no
def sPut (fd fi fv : FE) : FS := fun g => (fv g).bind fun rv g1 => (fd g1).bind fun rd g2 => (fi g2).bind fun ri g3 => match rv, rd, ri with
  | .d x, .o j, .d key => match g3.ce[j]? with
    | some ct => match dPut ct key x with
      | some ct' => .ok .nx (putC g3 j ct')
      | none => .no
    | none => .no
  | _, _, _ => .no
def sNo : FS := fun _ => .no
def whSt (t : FT) (u w : FS) : FS := fun g => (t g).bind fun c g1 => if c = true then (u g1).bind fun f g2 => match f with
  | .nx => w g2
  | .ct => w g2
  | .bk => .ok .nx g2
  | .rt r => .ok (.rt r) g2 else .ok .nx g1
def whGo (t : FT) (u : FS) : Nat → FS
  | 0 => fun _ => .no
  | n + 1 => whSt t u (whGo t u n)
open Classical in
noncomputable def sWh (t : FT) (u : FS) : FS := fun g => if h : ∃ n, whGo t u n g ≠ .no then whGo t u (Classical.choose h) g else .no
/-- one turn looks at the rest at one place at most -/
theorem whSt_at (t : FT) (u : FS) (g : G) : (∃ g2, ∀ w, whSt t u w g = w g2) ∨ ∃ o, ∀ w, whSt t u w g = o := by
  unfold whSt
  cases t g with
  | no => exact .inr ⟨_, fun _ => rfl⟩
  | ex n g => exact .inr ⟨_, fun _ => rfl⟩
  | ok c g1 =>
    cases c with
    | false => exact .inr ⟨_, fun _ => rfl⟩
    | true =>
      simp only [bind_ok, if_true]
      cases u g1 with
      | no => exact .inr ⟨_, fun _ => rfl⟩
      | ex n g => exact .inr ⟨_, fun _ => rfl⟩
      | ok f g2 =>
        cases f with
        | nx => exact .inl ⟨g2, fun _ => rfl⟩
        | ct => exact .inl ⟨g2, fun _ => rfl⟩
        | bk => exact .inr ⟨_, fun _ => rfl⟩
        | rt r => exact .inr ⟨_, fun _ => rfl⟩
theorem whGo_succ {t : FT} {u : FS} : ∀ {n : Nat} {g : G}, whGo t u n g ≠ .no → whGo t u (n + 1) g = whGo t u n g
  | 0, g, h => absurd rfl h
  | n + 1, g, h => by
    show whSt t u (whGo t u (n + 1)) g = whSt t u (whGo t u n) g
    have h : whSt t u (whGo t u n) g ≠ .no := h
    rcases whSt_at t u g with ⟨g2, e⟩ | ⟨o, e⟩
    · rw [e, e]
      rw [e] at h
      exact whGo_succ h
    · rw [e, e]
theorem whGo_le {t : FT} {u : FS} {n m : Nat} {g : G} (hm : n ≤ m) (h : whGo t u n g ≠ .no) : whGo t u m g = whGo t u n g := by
  induction hm with
  | refl => rfl
  | step _ ih => rw [whGo_succ (by rw [ih]; exact h), ih]
theorem sWh_of {t : FT} {u : FS} {n : Nat} {g : G} (h : whGo t u n g ≠ .no) : sWh t u g = whGo t u n g := by
  have hx : ∃ n, whGo t u n g ≠ .no := ⟨n, h⟩
  unfold sWh
  rw [dif_pos hx]
  have hc := Classical.choose_spec hx
  rcases Nat.le_total n (Classical.choose hx) with z | z
  · exact whGo_le z h
  · exact (whGo_le z hc).symm
theorem sWh_ex {t : FT} {u : FS} {g : G} (h : sWh t u g ≠ .no) : ∃ n, whGo t u n g = sWh t u g := by
  by_cases hx : ∃ n, whGo t u n g ≠ .no
  · obtain ⟨n, hn⟩ := hx
    exact ⟨n, (sWh_of hn).symm⟩
  · unfold sWh at h
    rw [dif_neg hx] at h
    exact absurd rfl h
/-- THE STEP of a while -/
theorem sWh_step (t : FT) (u : FS) (g : G) : sWh t u g = whSt t u (sWh t u) g := by
  by_cases hx : ∃ n, whGo t u n g ≠ .no
  · obtain ⟨n, hn⟩ := hx
    have hn' : whGo t u (n + 1) g ≠ .no := by rw [whGo_succ hn]; exact hn
    rw [sWh_of hn']
    show whSt t u (whGo t u n) g = _
    have hn' : whSt t u (whGo t u n) g ≠ .no := hn'
    rcases whSt_at t u g with ⟨g2, e⟩ | ⟨o, e⟩
    · rw [e, e]
      rw [e] at hn'
      exact (sWh_of hn').symm
    · rw [e, e]
  · have e : sWh t u g = .no := by unfold sWh; rw [dif_neg hx]
    rw [e]
    refine Classical.byContradiction fun z => hx ?_
    have z : whSt t u (sWh t u) g ≠ .no := fun y => z y.symm
    rcases whSt_at t u g with ⟨g2, e⟩ | ⟨o, e⟩
    · rw [e] at z
      obtain ⟨n, hn⟩ := sWh_ex z
      refine ⟨n + 1, ?_⟩
      show whSt t u (whGo t u n) g ≠ .no
      rw [e, hn]
      exact z
    · refine ⟨1, ?_⟩
      show whSt t u (whGo t u 0) g ≠ .no
      rw [e] at z ⊢
      exact z
def forGo (t : FG) (u : FS) : List PyData → FS
  | [] => fun g => .ok .nx g
  | x :: ds => fun g => (t (.d x) g).bind fun _ g1 => (u g1).bind fun f g2 => match f with
    | .nx => forGo t u ds g2
    | .ct => forGo t u ds g2
    | .bk => .ok .nx g2
    | .rt r => .ok (.rt r) g2
def sFr (i : FI) (t : FG) (u : FS) : FS := fun g => (i g).bind fun ds g1 => forGo t u ds g1
def lcGo (t : FG) (c : FT) (f : FE) (sl : List (Option R)) (ws : List Nat) : List PyData → List PyData → List Ct → Out (List PyData)
  | [], acc, ce => .ok acc ⟨sl, ce⟩
  | x :: ds, acc, ce => if acc.length < 100000 then match t (.d x) ⟨wipeG sl ws, ce⟩ with
    | .ok _ g2 => match c g2 with
      | .ok true g3 => match f g3 with
        | .ok (.d d) g4 => lcGo t c f sl ws ds (acc ++ [d]) g4.ce
        | _ => .no
      | .ok false g3 => lcGo t c f sl ws ds acc g3.ce
      | _ => .no
    | _ => .no else .no
def fLc (i : FI) (t : FG) (c : FT) (f : FE) (ws : List Nat) : FE := fun g => (i g).bind fun ds g1 => (lcGo t c f g1.sl ws ds [] g1.ce).bind fun acc g2 => .ok (.d (.list acc)) g2
def fLcO (i : FI) (t : FG) (c : FT) (f : FE) (ws : List Nat) : FE := fun g => (i g).bind fun ds g1 => (lcGo t c f g1.sl ws ds [] g1.ce).bind fun acc g2 => newO (.lst acc) g2
def iSeq (f : FE) : FI := fun g => (f g).bind fun r g1 => if noO r then match seqOf g1 r with
  | some (_, ds) => .ok ds g1
  | none => .no else .no
def rOk (i : Int) : Bool := decide (-(2 ^ 62) ≤ i ∧ i < 2 ^ 62)
def iRg1 (fs : FAr) : FI := fun g => (fs g).bind fun rs g1 => match rs with
  | [.d (.int j)] => if rOk j then .ok (rng 0 j.toNat) g1 else .no
  | _ => .no
def iRg2 (fs : FAr) : FI := fun g => (fs g).bind fun rs g1 => match rs with
  | [.d (.int i), .d (.int j)] => if rOk i && rOk j then .ok (rng i (j - i).toNat) g1 else .no
  | _ => .no
def iEn (fs : FAr) : FI := fun g => (fs g).bind fun rs g1 => match rs with
  | [r] => if noO r then match seqOf g1 r with
    | some (_, ds) => .ok (enumD ds) g1
    | none => .no else .no
  | _ => .no
def seqD : PyData → Option (List PyData)
  | .list ds => some ds
  | .tuple ds => some ds
  | _ => none
def iZ2 (fs : FAr) : FI := fun g => (fs g).bind fun rs g1 => match rs with
  | [.d x, .d y] => match seqD x, seqD y with
    | some xs, some ys => if ys.length = xs.length then .ok (zip2 xs ys) g1 else .no
    | _, _ => .no
  | _ => .no
def iZ3 (fs : FAr) : FI := fun g => (fs g).bind fun rs g1 => match rs with
  | [.d x, .d y, .d z] => match seqD x, seqD y, seqD z with
    | some xs, some ys, some zs => if ys.length = xs.length ∧ zs.length = xs.length then .ok (zip3 xs ys zs) g1 else .no
    | _, _, _ => .no
  | _ => .no
def clLz2 : Cl := fun g rs => match rs with
  | [r1, r2] => match seqOf g r1, seqOf g r2 with
    | some (_, xs), some (_, ys) => if ys.length = xs.length then some (.d (.list (zip2 xs ys))) else none
    | _, _ => none
  | _ => none
def clLz3 : Cl := fun g rs => match rs with
  | [r1, r2, r3] => match seqOf g r1, seqOf g r2, seqOf g r3 with
    | some (_, xs), some (_, ys), some (_, zs) => if ys.length = xs.length ∧ zs.length = xs.length then some (.d (.list (zip3 xs ys zs))) else none
    | _, _, _ => none
  | _ => none
inductive OutF where
  | ok (q : Res) (bx : List Ct)
  | ex (n : Xn) (bx : List Ct)
  | no
abbrev Fn := List R → List Ct → OutF
def resF (own : Bool) (g : G) : Res → R × G
  | .dat x => (.d x, g)
  | .shC ct => (.m ct, g)
  | .newC ct => if own then (.o g.ce.length, { g with ce := g.ce ++ [ct] }) else (shR ct, g)
def callF (f : Fn) (own : Bool) (rs : List R) (g : G) : Out R :=
  if (boxes rs).Nodup ∧ (∀ j ∈ boxes rs, aliveB g.ce[j]? = true) ∧ rs.all noL = true then match f (rs.map (renR (boxes rs))) ((boxes rs).map fun j => g.ce.getD j .dead) with
    | .ok q bx => .ok (resF own { g with ce := wb g.ce (boxes rs) bx } q).1 (resF own { g with ce := wb g.ce (boxes rs) bx } q).2
    | .ex n bx => .ex n { g with ce := wb g.ce (boxes rs) bx }
    | .no => .no else .no
def fCall (f : Fn) (own : Bool) (fs : FAr) : FE := fun g => (fs g).bind fun rs g1 => callF f own rs g1
def finF (m : Nat) (r : R) (g : G) : OutF := match r with
  | .d x => .ok (.dat x) (g.ce.take m)
  | .m ct => .ok (.shC ct) (g.ce.take m)
  | .o j => if m ≤ j then match g.ce[j]? with
    | some .dead => .no
    | some ct => .ok (.newC ct) (g.ce.take m)
    | none => .no else .no
  | _ => .no
/-- a def: n slots, the body -/
def mkFn (n : Nat) (f : FS) : Fn := fun rs bx => match f (g0 n rs bx) with
  | .ok .nx g => finF bx.length (.d .none) g
  | .ok (.rt r) g => finF bx.length r g
  | .ex n g => .ex n (g.ce.take bx.length)
  | _ => .no
end DL
set_option Elab.async false
set_option linter.all false
set_option maxRecDepth 100000
set_option maxHeartbeats 4000000
set_option autoImplicit false
namespace DL
open PySem PySem.Spec PyProof.Rows L2
abbrev PF (ρ : Root) (X : Cx) (dx : DX) (e : Expr) (f : FE) : Prop := PD ρ X e (rd dx f)
abbrev PFT (ρ : Root) (X : Cx) (dx : DX) (e : Expr) (f : FT) : Prop := PDT ρ X e (rd dx f)
abbrev PFW (ρ : Root) (X : Cx) (dx : DX) (e : Expr) (f : FT) : Prop := PDW ρ X e (rd dx f)
abbrev PFTs (ρ : Root) (X : Cx) (dx : DX) (e : List Expr) (f : FT) : Prop := PDTs ρ X e (rd dx f)
abbrev PFA (ρ : Root) (X : Cx) (dx : DX) (e : List Expr) (f : FAr) : Prop := PDA ρ X e (rd dx f)
abbrev PFI (ρ : Root) (X : Cx) (dx : DX) (tg e : Expr) (f : FI) : Prop := PDI ρ X tg e (rd dx f)
abbrev PFO (ρ : Root) (X : Cx) (dx : DX) (e : Option Expr) (f : FO) : Prop := PDO ρ X e (rd dx f)
abbrev PFG (ρ : Root) (X : Cx) (dx : DX) (ws : List Nat) (e : Expr) (f : FG) : Prop := PDG ρ X ws e (rG dx f)
abbrev PFGs (ρ : Root) (X : Cx) (dx : DX) (ws : List Nat) (e : List Expr) (f : FGs) : Prop := PDGs ρ X ws e (rGs dx f)
abbrev PFS (ρ : Root) (X : Cx) (dx : DX) (e : Stmt) (f : FS) : Prop := PDS ρ X e (rS dx f)
abbrev PFSs (ρ : Root) (X : Cx) (dx : DX) (e : List Stmt) (f : FS) : Prop := PDSs ρ X e (rS dx f)
section
variable {ρ : Root} {X : Cx} {dx : DX} {e a b c : Expr} {es : List Expr} {pos : Pos} {f f1 f2 f3 : FE} {fs : FAr} {t u : FT}
theorem q_var (i : Nat) {x : Str} (hN : X.N[i]? = some x := by rfl) (hv : Vis X.env.scope x := by first | exact Or.inl rfl | exact Or.inr (Or.inl rfl) | exact Or.inr (Or.inr rfl)) (hd : (x == ("__debug__" : Str)) = false := by decide)
    (hcd : (x == ("__classdict__" : Str)) = false := by decide) : PF ρ X dx (.Name x pos) (fVar i) := pd_mono (pd_var i hN hv hd hcd) fun g k h => by
  unfold rd fVar at h
  split at h
  · rename_i r hr; exact ⟨r, hr, h⟩
  · exact h.elim
theorem q_int {i : Int} {j : Nat} : PF ρ X dx (.Constant (.int i) j pos) (fC (.int i)) := pd_mono pd_int fun _ _ h => h
theorem q_bool {i : Bool} {j : Nat} : PF ρ X dx (.Constant (.bool i) j pos) (fC (.bool i)) := pd_mono pd_bool fun _ _ h => h
theorem q_none {j : Nat} : PF ρ X dx (.Constant .none j pos) (fC .none) := pd_mono pd_none fun _ _ h => h
theorem q_str {i : Str} {j : Nat} : PF ρ X dx (.Constant (.str i) j pos) (fC (.str i)) := pd_mono pd_str fun _ _ h => h
theorem OpR.or {f : Value → Value → Sem Value} {r1 r2 : R2} (h1 : OpR X f r1) (h2 : OpR X f r2) : OpR X f (fun x y H Q => r1 x y H Q ∨ r2 x y H Q) := fun pins s σ H x y v u Q I a b h => h.elim (h1 pins s σ H x y v u Q I a b) (h2 pins s σ H x y v u Q I a b)
theorem RefOp.or {K : KR} {r1 r2 : R2} {d1 d2 : D2} (h1 : RefOp K r1 d1) (h2 : RefOp K r2 d2) : RefOp K (fun x y H Q => r1 x y H Q ∨ r2 x y H Q) (fun a b g k => d1 a b g k ∨ d2 a b g k) := fun F g tm s H B al x y r1 r2 k Q S hx hy h q => h.elim (fun h => .inl (h1 F g tm s H B al x y r1 r2 k Q S hx hy h q)) (fun h => .inr (h2 F g tm s H B al x y r1 r2 k Q S hx hy h q))
/-- an operation says what the function says -/
def Says (op : Op2) (dr : D2) : Prop := ∀ r1 r2 g k r, op g r1 r2 = some r → k r g → dr r1 r2 g k
theorem rd_op {op : Op2} {dr : D2} (h : Says op dr) : ∀ g k, rd dx (fOp op f1 f2) g k → dOp dr (rd dx f1) (rd dx f2) g k := fun g k hk => by
  unfold rd fOp at hk
  refine go_mono (go_bind.mp hk) fun r1 g1 h1 => go_mono (go_bind.mp h1) fun r2 g2 h2 => ?_
  obtain ⟨r, e, hr⟩ := go_ofO h2
  exact h r1 r2 g2 k r e hr
theorem says_I {fo : Int → Int → PyData} {fi : Int → Int → Option PyData} (h : ∀ i j x, fi i j = some x → x = fo i j) : Says (onI fi) (oI0 fo) := fun r1 r2 g k r e hk => by
  obtain ⟨i, j, x, rfl, rfl, ef, rfl⟩ := onI_eq e
  rw [h i j x ef] at hk
  exact ⟨i, j, rfl, rfl, hk⟩
theorem says_IC {C : Int → Int → Prop} {fo : Int → Int → PyData} {fi : Int → Int → Option PyData} (h : ∀ i j x, fi i j = some x → x = fo i j ∧ C i j) : Says (onI fi) (oI C fo) := fun r1 r2 g k r e hk => by
  obtain ⟨i, j, x, rfl, rfl, ef, rfl⟩ := onI_eq e
  rw [(h i j x ef).1] at hk
  exact ⟨i, j, rfl, rfl, (h i j x ef).2, hk⟩
theorem says_sub : Says opSub oSub := says_I fun _ _ _ h => by cases h; rfl
theorem says_lt : Says opLt oLt := says_I fun _ _ _ h => by cases h; rfl
theorem says_gt : Says opGt oGt := says_I fun _ _ _ h => by cases h; rfl
theorem says_ge : Says opGe oGe := says_I fun _ _ _ h => by cases h; rfl
theorem says_mod : Says opMod oMod := says_IC fun i j x h => by
  split at h
  · rename_i hj; cases h; exact ⟨rfl, hj⟩
  · cases h
theorem says_div : Says opDiv oDiv := says_IC fun i j x h => by
  split at h
  · rename_i hj; cases h; exact ⟨rfl, hj⟩
  · cases h
theorem says_pow : Says opPow oPow := says_IC fun i j x h => by
  split at h
  · rename_i hj; cases h; exact ⟨rfl, hj⟩
  · cases h
theorem says_mul : Says opMul oMul := fun r1 r2 g k r e hk => by
  unfold opMul at e
  split at e
  · split at e
    · rename_i i j h
      cases e
      exact ⟨i, j, rfl, rfl, (by unfold mulOk at h; unfold CMul; exact of_decide_eq_true h), hk⟩
    · cases e
  · cases e
theorem cat2_eq {g : G} {r1 r2 : R} {l : List PyData} (h : cat2 g r1 r2 = some l) : ∃ xs ys, seqOf g r1 = some (false, xs) ∧ seqOf g r2 = some (false, ys) ∧ isMade r1 = true ∧ isMade r2 = true ∧ xs.length + ys.length ≤ 100000 ∧ l = xs ++ ys := by
  unfold cat2 at h
  split at h
  · split at h
    · rename_i xs ys e1 e2 hc
      cases h
      simp only [Bool.and_eq_true, decide_eq_true_eq] at hc
      exact ⟨xs, ys, e1, e2, hc.1.1, hc.1.2, hc.2, rfl⟩
    · cases h
  · cases h
theorem says_add : Says opAdd (fun a b g k => oAdd a b g k ∨ oCatT a b g k ∨ oCatL a b g k) := fun r1 r2 g k r e hk => by
  unfold opAdd at e
  split at e
  · cases e; exact .inl ⟨_, _, rfl, rfl, hk⟩
  · split at e
    · rename_i h
      cases e
      exact .inr (.inl ⟨_, _, rfl, rfl, h, hk⟩)
    · cases e
  · cases hc : cat2 g r1 r2 with
    | none => rw [hc] at e; cases e
    | some l =>
      rw [hc] at e
      cases e
      obtain ⟨xs, ys, h1, h2, h3, h4, h5, rfl⟩ := cat2_eq hc
      exact .inr (.inr ⟨xs, ys, h1, h2, h3, h4, h5, hk⟩)
theorem says_eq : Says opEq oEq := fun r1 r2 g k r e hk => by
  unfold opEq at e
  split at e
  · split at e
    · rename_i x y e1 e2 hc
      cases e
      simp only [Bool.and_eq_true] at hc
      exact ⟨x, y, e1, e2, hc.1, hc.2, hk⟩
    · cases e
  · cases e
theorem says_ne : Says opNe oNe := fun r1 r2 g k r e hk => by
  unfold opNe at e
  split at e
  · split at e
    · rename_i x y e1 e2 hc
      cases e
      simp only [Bool.and_eq_true] at hc
      exact ⟨x, y, e1, e2, hc.1, hc.2, hk⟩
    · cases e
  · cases e
theorem rv_isN {K : KR} {B : Hp} {al : List Addr} {v : V} {r : R} (h : RvOk K B al v r) : decide (v = .non) = isNR r := by
  cases r with
  | d x => exact dq_isN h
  | o j => obtain ⟨a, _, rfl⟩ := h; rfl
  | s ns => obtain ⟨a, rfl, _⟩ := h; rfl
  | x n => obtain ⟨a, _, rfl, _⟩ := h; rfl
  | m ct => obtain ⟨a, rfl, _⟩ := h; rfl
  | l js => obtain ⟨a, _, rfl, _⟩ := h; rfl
  | f j ds => obtain ⟨a, _, _, rfl, _⟩ := h; rfl
def oIsR : D2 := fun r1 r2 g k => r2 = .d .none ∧ k (.d (.bool (isNR r1))) g
def oNotR : D2 := fun r1 r2 g k => r2 = .d .none ∧ k (.d (.bool (!isNR r1))) g
theorem ref_isR {K : KR} : RefOp K (fun x y H Q => y = .non ∧ Q (.bl (decide (x = .non))) H) oIsR := by
  rintro F g tm s H B al x y r1 r2 k Q S hx hy ⟨rfl, hk⟩ q
  refine ⟨dq_none hy, ?_⟩
  rw [rv_isN hx]
  exact q _ H _ g B al hk S (Dq.bl _)
theorem ref_notR {K : KR} : RefOp K (fun x y H Q => y = .non ∧ Q (.bl (!decide (x = .non))) H) oNotR := by
  rintro F g tm s H B al x y r1 r2 k Q S hx hy ⟨rfl, hk⟩ q
  refine ⟨dq_none hy, ?_⟩
  rw [rv_isN hx]
  exact q _ H _ g B al hk S (Dq.bl _)
theorem says_isN : Says opIsN oIsR := fun r1 r2 g k r e hk => by
  unfold opIsN at e
  split at e
  · cases e; exact ⟨rfl, hk⟩
  · cases e
theorem says_notN : Says opNotN oNotR := fun r1 r2 g k r e hk => by
  unfold opNotN at e
  split at e
  · cases e; exact ⟨rfl, hk⟩
  · cases e
theorem q_add (ha : PF ρ X dx a f1) (hb : PF ρ X dx b f2) : PF ρ X dx (.BinOp a .Add b pos) (fOp opAdd f1 f2) :=
  pd_mono (pd_op (OpR.or op_add (OpR.or op_catA op_cat)) (RefOp.or (ref_I0 fun _ _ _ => .int _) (RefOp.or (by
  rintro F g tm s H B al x y r1 r2 k Q S hx hy ⟨ds, es, rfl, rfl, hz, hk⟩ q
  obtain ⟨a, xs, rfl, h1, h2⟩ := dq_tup hx
  obtain ⟨b, ys, rfl, h3, h4⟩ := dq_tup hy
  refine ⟨a, b, xs, ys, rfl, rfl, .inl (.inl (S.bh _ _ h1)), .inl (.inl (S.bh _ _ h3)), by rw [dqall_len h2, dqall_len h4]; exact sz_ok hz, fun e => ?_, fun _ e => ?_, fun _ _ p hp => new_t S hp (dqall_app h2 h4) hk q⟩
  · subst e
    cases h2
    exact q _ H _ g B al hk S hy
  · subst e
    cases h4
    rw [List.append_nil] at hk
    exact q _ H _ g B al hk S hx) (by
  rintro F g tm s H B al x y r1 r2 k Q S hx hy ⟨ds, es, e1, e2, m1, m2, hz, hk⟩ q
  obtain ⟨a, xs, rfl, h1, h2⟩ := S.seqM hx e1 m1
  obtain ⟨b, ys, rfl, h3, h4⟩ := S.seqM hy e2 m2
  exact ⟨a, b, xs, ys, rfl, rfl, h1, h3, by rw [dqall_len h2, dqall_len h4]; exact sz_ok hz, fun p hp => new_l S hp (dqall_app h2 h4) hk q⟩))) ha hb) (rd_op says_add)
theorem q_sub (ha : PF ρ X dx a f1) (hb : PF ρ X dx b f2) : PF ρ X dx (.BinOp a .Sub b pos) (fOp opSub f1 f2) := pd_mono (pd_sub ha hb) (rd_op says_sub)
theorem q_mul (ha : PF ρ X dx a f1) (hb : PF ρ X dx b f2) : PF ρ X dx (.BinOp a .Mult b pos) (fOp opMul f1 f2) := pd_mono (pd_mul ha hb) (rd_op says_mul)
theorem q_mod (ha : PF ρ X dx a f1) (hb : PF ρ X dx b f2) : PF ρ X dx (.BinOp a .Mod b pos) (fOp opMod f1 f2) := pd_mono (pd_mod ha hb) (rd_op says_mod)
theorem q_div (ha : PF ρ X dx a f1) (hb : PF ρ X dx b f2) : PF ρ X dx (.BinOp a .FloorDiv b pos) (fOp opDiv f1 f2) := pd_mono (pd_div ha hb) (rd_op says_div)
theorem q_pow (ha : PF ρ X dx a f1) (hb : PF ρ X dx b f2) : PF ρ X dx (.BinOp a .Pow b pos) (fOp opPow f1 f2) := pd_mono (pd_pow ha hb) (rd_op says_pow)
theorem q_neg (ha : PF ρ X dx a f) : PF ρ X dx (.UnaryOp .USub a pos) (fNeg f) := pd_mono (pd_neg ha) fun g k h => by
  refine go_mono (go_bind.mp h) fun r g1 h1 => ?_
  split at h1
  · exact ⟨_, rfl, h1⟩
  · exact h1.elim
theorem rd_tst : ∀ g k, rd dx (fTst f) g k → dTst (rd dx f) g k := fun g k h => by
  refine go_mono (go_bind.mp h) fun r g1 h1 => ?_
  split at h1
  · exact ⟨_, rfl, h1⟩
  · exact h1.elim
theorem rd_tstop {op : Op2} {dr : D2} (h : Says op dr) : ∀ g k, rd dx (fTst (fOp op f1 f2)) g k → dTst (dOp dr (rd dx f1) (rd dx f2)) g k := fun g k hk => rd_op h g _ (rd_tst g k hk)
def OvOk (B : Hp) (ov : Option V) : Option PyData → Prop
  | some x => ∃ v, ov = some v ∧ Dq B v x
  | none => ov = none
theorem val_ok {κ : Type} [DecidableEq κ] {B : Hp} {k : κ} : ∀ {us : List (κ × V)} {kvs : List (κ × PyData)}, Paired (fun (p : κ × V) (q : κ × PyData) => p.1 = q.1 ∧ Dq B p.2 q.2) us kvs → OvOk B (valV us k) (valP kvs k)
  | _, _, .nil => rfl
  | _, _, @Paired.cons _ _ _ p q us kvs h t => by
    have ih := val_ok (k := k) t
    obtain ⟨q1, q2⟩ := q
    by_cases e : q1 = k
    · rw [valP, if_pos e]
      exact ⟨p.2, valV_pos (h.1.trans e), h.2⟩
    · have e' : ¬ p.1 = k := fun z => e (h.1.symm.trans z)
      have n : valV (p :: us) k = valV us k := by simp [valV, List.find?_cons, e']
      rw [valP, if_neg e, n]
      exact ih
theorem any_okP {κ : Type} [DecidableEq κ] {B : Hp} {k : κ} : ∀ {us : List (κ × V)} {kvs : List (κ × PyData)}, Paired (fun (p : κ × V) (q : κ × PyData) => p.1 = q.1 ∧ Dq B p.2 q.2) us kvs → (us.any fun kv => decide (kv.1 = k)) = kvs.any fun p => decide (p.1 = k)
  | _, _, .nil => rfl
  | _, _, @Paired.cons _ _ _ p q us kvs h t => by rw [List.any_cons, List.any_cons, any_okP t, h.1]
theorem map_okP {κ : Type} [DecidableEq κ] {B : Hp} {k : κ} {v : V} {x : PyData} (hv : Dq B v x) : ∀ {us : List (κ × V)} {kvs : List (κ × PyData)}, Paired (fun (p : κ × V) (q : κ × PyData) => p.1 = q.1 ∧ Dq B p.2 q.2) us kvs → Paired (fun (p : κ × V) (q : κ × PyData) => p.1 = q.1 ∧ Dq B p.2 q.2) (us.map (fun kv => if kv.1 = k then (kv.1, v) else kv)) (kvs.map (fun p => if p.1 = k then (p.1, x) else p))
  | _, _, .nil => .nil
  | _, _, @Paired.cons _ _ _ p q us kvs h t => by
    refine .cons ?_ (map_okP hv t)
    show (if p.1 = k then (p.1, v) else p).1 = (if q.1 = k then (q.1, x) else q).1 ∧ Dq B (if p.1 = k then (p.1, v) else p).2 (if q.1 = k then (q.1, x) else q).2
    by_cases e : p.1 = k
    · rw [if_pos e, if_pos (h.1 ▸ e)]; exact ⟨h.1, hv⟩
    · rw [if_neg e, if_neg (fun z => e (h.1.trans z))]; exact h
theorem put_okP {κ : Type} [DecidableEq κ] {B : Hp} {k : κ} {v : V} {x : PyData} (hv : Dq B v x) {us : List (κ × V)} {kvs : List (κ × PyData)} (h : Paired (fun (p : κ × V) (q : κ × PyData) => p.1 = q.1 ∧ Dq B p.2 q.2) us kvs) : Paired (fun (p : κ × V) (q : κ × PyData) => p.1 = q.1 ∧ Dq B p.2 q.2) (putK us k v) (putP kvs k x) := by
  unfold putK putP
  rw [any_okP h]
  by_cases e : (kvs.any fun p => decide (p.1 = k)) = true
  · rw [if_pos e, if_pos e]; exact map_okP hv h
  · rw [if_neg e, if_neg e]; exact app_ok h (.cons ⟨rfl, hv⟩ .nil)
theorem key_ok {B : Hp} {v : V} {d : PyData} {k : Key} (h : Dq B v d) (e : keyOf d = some k) : v = kV k := by
  cases d with
  | int i => cases e; exact dq_int h
  | str i => cases e; exact dq_str h
  | _ => cases e
theorem keys_okP {B : Hp} : ∀ {vs : List V} {ds : List PyData} {ks : List Key}, DqAll B vs ds → keysOf ds = some ks → vs = ks.map kV
  | _, [], ks, .nil, e => by cases e; rfl
  | _, d :: ds, ks, .cons a b, e => by
    rw [keysOf] at e
    split at e
    · rename_i k ks' h1 h2
      cases e
      rw [key_ok a h1, keys_okP b h2]
      rfl
    · cases e
theorem tkey_ok {B : Hp} {v : V} {d : PyData} {ks : List Key} (h : Dq B v d) (e : tkeyOf d = some ks) : ∃ b, v = .ref b ∧ B b = some (.tup (ks.map kV)) := by
  cases d with
  | tuple ds =>
    obtain ⟨a, xs, rfl, h1, h2⟩ := dq_tup h
    rw [keys_okP h2 e] at h1
    exact ⟨a, rfl, h1⟩
  | _ => cases e
theorem Stt.dict {K : KR} {F : Fm} {g : G} {tm : List (V × R)} {s : L2.St} {H B : Hp} {al : List Addr} (S : Stt K F g tm s H B al) {v : V} {r : R} {ct : Ct} (hv : RvOk K B al v r) (h : dictAt g r = some ct) : ∃ a, v = .ref a ∧ dictC ct = true ∧ CtOk K B al H a ct := by
  cases r with
  | d x => cases h
  | s x => cases h
  | x n => cases h
  | l js => cases h
  | f j ds => cases h
  | o j =>
    obtain ⟨a, h1, h2⟩ := hv
    have h : (match g.ce[j]? with | some ct => if dictC ct then some ct else none | none => none) = some ct := h
    cases hc : g.ce[j]? with
    | none => rw [hc] at h; cases h
    | some c =>
      rw [hc] at h
      by_cases q : dictC c = true
      · simp only [q, if_true] at h
        cases h
        exact ⟨a, h2, q, S.ce j a _ h1 hc⟩
      · simp only [q] at h
        cases h
  | m c =>
    obtain ⟨a, h1, h2, h3⟩ := hv
    have h : (if dictC c then some c else none) = some ct := h
    by_cases q : dictC c = true
    · simp only [q, if_true] at h
      cases h
      exact ⟨a, h1, q, ct_mono0 (Same.refl _) (fun o e => S.bh _ _ e) h3⟩
    · simp only [q] at h
      cases h
theorem dget_ok {K : KR} {F : Fm} {g : G} {tm : List (V × R)} {s : L2.St} {H B : Hp} {al : List Addr} (S : Stt K F g tm s H B al) {a : Addr} {y : V} {key : PyData} {ct : Ct} {o : Option PyData} (hc : CtOk K B al H a ct) (hy : Dq B y key) (e : dGet ct key = some o) :
    ∃ ov, DGet H a y ov ∧ OvOk B ov o := by
  cases ct with
  | dead => cases e
  | lst ds => cases e
  | dK kvs =>
    obtain ⟨us, h1, h2⟩ := hc
    cases hk : keyOf key with
    | none => simp only [dGet, hk] at e; cases e
    | some k =>
      simp only [dGet, hk, Option.map_some, Option.some.injEq] at e
      refine ⟨valV us k, .inl ⟨us, k, .inl h1, key_ok hy hk, rfl⟩, ?_⟩
      rw [← e]
      exact val_ok h2
  | dN kvs => cases e
  | dL kvs => cases e
  | dF kvs => cases e
  | dT kvs =>
    obtain ⟨us, h1, h2⟩ := hc
    cases hk : tkeyOf key with
    | none => simp only [dGet, hk] at e; cases e
    | some k =>
      simp only [dGet, hk, Option.map_some, Option.some.injEq] at e
      obtain ⟨b, eb, hb⟩ := tkey_ok hy hk
      refine ⟨valV us k, .inr ⟨us, k, b, .inl h1, eb, S.bh _ _ hb, rfl⟩, ?_⟩
      rw [← e]
      exact val_ok h2
theorem pe_or {t1 t2 : TE} (h1 : PE X e t1) (h2 : PE X e t2) : PE X e (fun s H Q => t1 s H Q ∨ t2 s H Q) := ⟨fun pins s σ H Q I h => h.elim (h1.run pins s σ H Q I) (h2.run pins s σ H Q I)⟩
theorem pt_or {t1 t2 : TT} (h1 : PT X e t1) (h2 : PT X e t2) : PT X e (fun s H Q => t1 s H Q ∨ t2 s H Q) := ⟨fun pins s σ H Q I h => h.elim (h1.run pins s σ H Q I) (h2.run pins s σ H Q I)⟩
theorem pd_or2 {d1 d2 : DE} (h1 : PD ρ X e d1) (h2 : PD ρ X e d2) : PD ρ X e (fun g k => d1 g k ∨ d2 g k) := pe_imp (pe_or h1 h2) fun s H Q ⟨F, g, tm, k, B, al, S, hk, q⟩ => hk.elim (fun h => .inl ⟨F, g, tm, k, B, al, S, h, q⟩) (fun h => .inr ⟨F, g, tm, k, B, al, S, h, q⟩)
theorem pdt_or2 {d1 d2 : DT} (h1 : PDT ρ X e d1) (h2 : PDT ρ X e d2) : PDT ρ X e (fun g k => d1 g k ∨ d2 g k) := pt_imp (pt_or h1 h2) fun s H Q ⟨F, g, tm, k, B, al, S, hk, q⟩ => hk.elim (fun h => .inl ⟨F, g, tm, k, B, al, S, h, q⟩) (fun h => .inr ⟨F, g, tm, k, B, al, S, h, q⟩)
/-- an operation by two rules -/
theorem rd_op2 {op : Op2} {d1 d2 : D2} (h : ∀ r1 r2 g r, op g r1 r2 = some r → (∀ k : R → G → Prop, k r g → d1 r1 r2 g k) ∨ (∀ k : R → G → Prop, k r g → d2 r1 r2 g k)) : ∀ g k, rd dx (fOp op f1 f2) g k → dOp d1 (rd dx f1) (rd dx f2) g k ∨ dOp d2 (rd dx f1) (rd dx f2) g k := fun g k hk => by
  unfold rd fOp at hk
  unfold dOp rd
  cases e1 : f1 g with
  | no => rw [e1] at hk; exact hk.elim
  | ex n g => rw [e1] at hk; exact .inl hk
  | ok r1 g1 =>
    rw [e1] at hk
    simp only [bind_ok] at hk
    show ((f2 g1).go dx fun r2 g2 => d1 r1 r2 g2 k) ∨ ((f2 g1).go dx fun r2 g2 => d2 r1 r2 g2 k)
    cases e2 : f2 g1 with
    | no => rw [e2] at hk; exact hk.elim
    | ex n g => rw [e2] at hk; exact .inl hk
    | ok r2 g2 =>
      rw [e2] at hk
      simp only [bind_ok] at hk
      obtain ⟨r, e, hr⟩ := go_ofO hk
      rcases h r1 r2 g2 r e with z | z
      · exact .inl (z k hr)
      · exact .inr (z k hr)
def oIxD : D2 := fun r1 r2 g k => ∃ ct key x, dictAt g r1 = some ct ∧ r2 = .d key ∧ dGet ct key = some (some x) ∧ k (.d x) g
theorem pd_ixD (hu : X.A.units + 1 < cLine) {da db : DE} (ha : PD ρ X a da) (hb : PD ρ X b db) (hs : PlainIx b := by intro _ _; rfl) : PD ρ X (.Subscript a b pos) (dOp oIxD da db) := pe_imp (pe_dget hu ha hb hs) fun s H Q ⟨F, g, tm, k, B, al, S, hk, q⟩ =>
  ⟨F, g, tm, _, B, al, S, hk, fun x H1 r1 g1 B1 al1 hk1 S1 => ⟨F, g1, (x, r1) :: tm, _, B1, al1, S1, hk1, fun y H2 r2 g2 B2 al2 ⟨ct, key, xd, e1, e2, e3, hk2⟩ S2 => by
    subst e2
    obtain ⟨p, e0, _, hc⟩ := S2.dict (S2.tm (x, r1) (by simp)) e1
    have e0 : x = .ref p := e0
    subst e0
    obtain ⟨ov, h1, v, h2, h3⟩ := dget_ok S2 hc (S2.tm (y, R.d key) (by simp)) e3
    subst h2
    exact ⟨p, v, rfl, h1, q v H2 _ g2 B2 al2 hk2 ((S2.temps (tm' := tm) fun p hp => List.mem_cons_of_mem _ (List.mem_cons_of_mem _ hp)).push h3)⟩⟩⟩
theorem q_ix (hu : X.A.units + 1 < cLine) (ha : PF ρ X dx a f1) (hb : PF ρ X dx b f2) (hs : PlainIx b := by intro _ _; rfl) : PF ρ X dx (.Subscript a b pos) (fOp opIx f1 f2) := pd_mono (pd_or2 (pd_ix ha hb hs) (pd_ixD hu ha hb hs)) (rd_op2 fun r1 r2 g r e => by
  unfold opIx at e
  split at e
  · rename_i key
    split at e
    · rename_i ct hct
      split at e
      · rename_i x hx; cases e; exact .inr fun k hk => ⟨ct, key, x, hct, rfl, hx, hk⟩
      · cases e
    · split at e
      · rename_i i
        split at e
        · rename_i t ds hs
          cases ha : atI ds i with
          | none => rw [ha] at e; cases e
          | some x => rw [ha] at e; cases e; exact .inl fun k hk => ⟨t, ds, i, x, hs, rfl, ha, hk⟩
        · cases e
      · cases e
  · cases e)
def oInDt (neg : Bool) : D2 := fun r1 r2 g k => ∃ ct key o, dictAt g r2 = some ct ∧ r1 = .d key ∧ dGet ct key = some o ∧ k (.d (.bool (if neg then !o.isSome else o.isSome))) g
def oInL (neg : Bool) : D2 := fun r1 r2 g k => ∃ d ds, datOf g r1 = some d ∧ datOf g r2 = some (.list ds) ∧ SeqAt.shaped d = true ∧ SeqAt.shaped (.list ds) = true ∧ k (.d (.bool (if neg then !(ds.any fun z => PyData.eqv z d) else ds.any fun z => PyData.eqv z d))) g
theorem isSome_ok {B : Hp} {ov : Option V} {o : Option PyData} (h : OvOk B ov o) : ov.isSome = o.isSome := by
  cases o with
  | none => rw [show ov = none from h]; rfl
  | some x => obtain ⟨v, e, _⟩ := h; rw [e]; rfl
theorem ref_inDt {K : KR} {da db : DE} : ∀ s H Q, lift K (dOp (oInDt false) da db) s H Q → tDIn (lift K da) (lift K db) s H Q := fun s H Q ⟨F, g, tm, k, B, al, S, hk, q⟩ =>
  ⟨F, g, tm, _, B, al, S, hk, fun x H1 r1 g1 B1 al1 hk1 S1 => ⟨F, g1, (x, r1) :: tm, _, B1, al1, S1, hk1, fun y H2 r2 g2 B2 al2 ⟨ct, key, o, e1, e2, e3, hk2⟩ S2 => by
    subst e2
    obtain ⟨p, e0, _, hc⟩ := S2.dict (S2.tm (y, r2) (by simp)) e1
    have e0 : y = .ref p := e0
    subst e0
    obtain ⟨ov, h1, h2⟩ := dget_ok S2 hc (S2.tm (x, R.d key) (by simp)) e3
    refine ⟨p, ov, rfl, h1, ?_⟩
    rw [isSome_ok h2]
    exact q _ H2 _ g2 B2 al2 hk2 ((S2.temps (tm' := tm) fun p hp => List.mem_cons_of_mem _ (List.mem_cons_of_mem _ hp)).push (.bl _))⟩⟩
theorem ref_notInDt {K : KR} {da db : DE} : ∀ s H Q, lift K (dOp (oInDt true) da db) s H Q → tDNotIn (lift K da) (lift K db) s H Q := fun s H Q ⟨F, g, tm, k, B, al, S, hk, q⟩ =>
  ⟨F, g, tm, _, B, al, S, hk, fun x H1 r1 g1 B1 al1 hk1 S1 => ⟨F, g1, (x, r1) :: tm, _, B1, al1, S1, hk1, fun y H2 r2 g2 B2 al2 ⟨ct, key, o, e1, e2, e3, hk2⟩ S2 => by
    subst e2
    obtain ⟨p, e0, _, hc⟩ := S2.dict (S2.tm (y, r2) (by simp)) e1
    have e0 : y = .ref p := e0
    subst e0
    obtain ⟨ov, h1, h2⟩ := dget_ok S2 hc (S2.tm (x, R.d key) (by simp)) e3
    refine ⟨p, ov, rfl, h1, ?_⟩
    rw [isSome_ok h2]
    exact q _ H2 _ g2 B2 al2 hk2 ((S2.temps (tm' := tm) fun p hp => List.mem_cons_of_mem _ (List.mem_cons_of_mem _ hp)).push (.bl _))⟩⟩
theorem pd_inDt (hu : X.A.units + 1 < cLine) {da db : DE} (ha : PD ρ X a da) (hb : PD ρ X b db) (h1 : behindInMarks .In b = false) : PD ρ X (.Compare a [.In] [b] pos) (dOp (oInDt false) da db) := pe_imp (pe_cmp (pc_din hu ha hb) h1) ref_inDt
theorem ref_inL {K : KR} : RefOp K (rInD K.fr) (oInL false) := by
  rintro F g tm s H B al x y r1 r2 k Q S hx hy ⟨d, ds, e1, e2, s1, s2, hk⟩ q
  exact ⟨d, ds, S.dat hx e1, S.dat hy e2, s1, s2, q _ H _ g B al hk S (Dq.bl _)⟩
theorem ref_notInL {K : KR} : RefOp K (rNotInD K.fr) (oInL true) := by
  rintro F g tm s H B al x y r1 r2 k Q S hx hy ⟨d, ds, e1, e2, s1, s2, hk⟩ q
  exact ⟨d, ds, S.dat hx e1, S.dat hy e2, s1, s2, q _ H _ g B al hk S (Dq.bl _)⟩
theorem inB_says {g : G} {r1 r2 : R} {b : Bool} (e : inB g r1 r2 = some b) : (∃ ct key o, dictAt g r2 = some ct ∧ r1 = .d key ∧ dGet ct key = some o ∧ b = o.isSome) ∨
    (∃ d ds, datOf g r1 = some d ∧ datOf g r2 = some (.list ds) ∧ SeqAt.shaped d = true ∧ SeqAt.shaped (.list ds) = true ∧ b = ds.any fun z => PyData.eqv z d) ∨ ∃ (i : Int) (t : Bool) (ns : List Int), r1 = .d (.int i) ∧ seqOf g r2 = some (t, ns.map .int) ∧ b = decide (i ∈ ns) := by
  unfold inB at e
  split at e
  · rename_i ct hct
    split at e
    · rename_i key
      cases hd : dGet ct key with
      | none => rw [hd] at e; cases e
      | some o => rw [hd] at e; cases e; exact .inl ⟨ct, key, o, hct, rfl, hd, rfl⟩
    · cases e
  · split at e
    · rename_i ds hds
      split at e
      · rename_i d hd
        split at e
        · rename_i hc
          simp only [Bool.and_eq_true] at hc
          cases e
          exact .inr (.inl ⟨d, ds, hd, hds, hc.1, hc.2, rfl⟩)
        · cases e
      · cases e
    · split at e
      · rename_i i
        split at e
        · rename_i t ds hs
          cases ha : asInts ds with
          | none => rw [ha] at e; cases e
          | some ns => rw [ha] at e; cases e; rw [asInts_eq ha] at hs; exact .inr (.inr ⟨i, t, ns, rfl, hs, rfl⟩)
        · cases e
      · cases e
theorem in_says (neg : Bool) (op : Op2) (hop : ∀ g r1 r2, op g r1 r2 = (inB g r1 r2).map fun b => .d (.bool (if neg then !b else b))) (r1 r2 : R) (g : G) (r : R) (e : op g r1 r2 = some r) :
    (∀ k : R → G → Prop, k r g → (fun a b g k => oInL neg a b g k ∨ (if neg then oNotIn else oIn) a b g k) r1 r2 g k) ∨ (∀ k : R → G → Prop, k r g → oInDt neg r1 r2 g k) := by
  rw [hop] at e
  cases hi : inB g r1 r2 with
  | none => rw [hi] at e; cases e
  | some b =>
    rw [hi] at e
    cases e
    rcases inB_says hi with ⟨ct, key, o, h1, h2, h3, rfl⟩ | ⟨d, ds, h1, h2, h3, h4, rfl⟩ | ⟨i, t, ns, h1, h2, rfl⟩
    · exact .inr fun k hk => ⟨ct, key, o, h1, h2, h3, hk⟩
    · exact .inl fun k hk => .inl ⟨d, ds, h1, h2, h3, h4, hk⟩
    · refine .inl fun k hk => .inr ?_
      cases neg with
      | true => exact ⟨i, t, ns, h1, h2, hk⟩
      | false => exact ⟨i, t, ns, h1, h2, hk⟩
theorem pd_inA (hu : X.A.units + 65 < cLine) {da db : DE} (ha : PD ρ X a da) (hb : PD ρ X b db) (hm : behindInMarks .In b = false) : PD ρ X (.Compare a [.In] [b] pos) (dOp (fun a b g k => oInL false a b g k ∨ oIn a b g k) da db) := pd_cmp (OpR.or (op_inD hu) op_in_seq) hm (RefOp.or ref_inL ref_in) ha hb
theorem q_in (hu : X.A.units + 65 < cLine) (ha : PF ρ X dx a f1) (hb : PF ρ X dx b f2) (hm : behindInMarks .In b = false := by rfl) : PF ρ X dx (.Compare a [.In] [b] pos) (fOp opIn f1 f2) := pd_mono (pd_or2 (pd_inA hu ha hb hm) (pd_inDt (by omega) ha hb hm)) (rd_op2 (in_says false opIn fun _ _ _ => rfl))
/-- a comparison by its value, as a test -/
theorem tst_of {op : CmpOp} {de : DE} {t : TE} (h : PC X op a b t) (h1 : behindInMarks op b = false) (i : ∀ s H Q, lift ⟨X.K, ρ⟩ de s H Q → t s H Q) : PDT ρ X (.Compare a [op] [b] pos) (dTst de) := pt_imp (pt_cmp h h1) fun s H Q hq => i s H _ (by
  obtain ⟨F, g, tm, k, B, al, S, hk, q⟩ := hq
  exact ⟨F, g, tm, _, B, al, S, hk, fun v H1 r g1 B1 al1 ⟨c, e, hk1⟩ S1 => by
    subst e
    cases dq_bool (S1.top rfl)
    exact ⟨c, rfl, q c H1 g1 B1 al1 hk1 (S1.temps fun p hp => List.mem_cons_of_mem _ hp)⟩⟩)
theorem rd_top2 {op : Op2} {d1 d2 : D2} (h : ∀ r1 r2 g r, op g r1 r2 = some r → (∀ k : R → G → Prop, k r g → d1 r1 r2 g k) ∨ (∀ k : R → G → Prop, k r g → d2 r1 r2 g k)) : ∀ g k, rd dx (fTst (fOp op f1 f2)) g k → dTst (dOp d1 (rd dx f1) (rd dx f2)) g k ∨ dTst (dOp d2 (rd dx f1) (rd dx f2)) g k := fun g k hk => rd_op2 h g _ (rd_tst g k hk)
theorem q_lt (ha : PF ρ X dx a f1) (hb : PF ρ X dx b f2) : PF ρ X dx (.Compare a [.Lt] [b] pos) (fOp opLt f1 f2) := pd_mono (pd_lt ha hb) (rd_op says_lt)
theorem q_ge (ha : PF ρ X dx a f1) (hb : PF ρ X dx b f2) : PF ρ X dx (.Compare a [.GtE] [b] pos) (fOp opGe f1 f2) := pd_mono (pd_ge ha hb) (rd_op says_ge)
theorem q_eq (hu : X.A.units + 64 < cLine) (ha : PF ρ X dx a f1) (hb : PF ρ X dx b f2) : PF ρ X dx (.Compare a [.Eq] [b] pos) (fOp opEq f1 f2) := pd_mono (pd_eq hu ha hb) (rd_op says_eq)
theorem q_isN (ha : PF ρ X dx a f1) (hb : PF ρ X dx b f2) : PF ρ X dx (.Compare a [.Is] [b] pos) (fOp opIsN f1 f2) := pd_mono (pd_cmp op_isN (nomark _) ref_isR ha hb) (rd_op says_isN)
theorem qt_lt (ha : PF ρ X dx a f1) (hb : PF ρ X dx b f2) : PFT ρ X dx (.Compare a [.Lt] [b] pos) (fTst (fOp opLt f1 f2)) := pdt_mono (pdt_lt ha hb) (rd_tstop says_lt)
theorem qt_gt (ha : PF ρ X dx a f1) (hb : PF ρ X dx b f2) : PFT ρ X dx (.Compare a [.Gt] [b] pos) (fTst (fOp opGt f1 f2)) := pdt_mono (pdt_gt ha hb) (rd_tstop says_gt)
theorem qt_eq (hu : X.A.units + 64 < cLine) (ha : PF ρ X dx a f1) (hb : PF ρ X dx b f2) : PFT ρ X dx (.Compare a [.Eq] [b] pos) (fTst (fOp opEq f1 f2)) := pdt_mono (pdt_eq hu ha hb) (rd_tstop says_eq)
theorem qt_ne (hu : X.A.units + 64 < cLine) (ha : PF ρ X dx a f1) (hb : PF ρ X dx b f2) : PFT ρ X dx (.Compare a [.NotEq] [b] pos) (fTst (fOp opNe f1 f2)) := pdt_mono (pdt_ne hu ha hb) (rd_tstop says_ne)
theorem qt_isN (ha : PF ρ X dx a f1) (hb : PF ρ X dx b f2) : PFT ρ X dx (.Compare a [.Is] [b] pos) (fTst (fOp opIsN f1 f2)) := pdt_mono (pdt_cmp op_isN (nomark _) ref_isR ha hb) (rd_tstop says_isN)
theorem qt_notN (ha : PF ρ X dx a f1) (hb : PF ρ X dx b f2) : PFT ρ X dx (.Compare a [.IsNot] [b] pos) (fTst (fOp opNotN f1 f2)) := pdt_mono (pdt_cmp op_notN (nomark _) ref_notR ha hb) (rd_tstop says_notN)
theorem qt_in (hu : X.A.units + 65 < cLine) (ha : PF ρ X dx a f1) (hb : PF ρ X dx b f2) (hm : behindInMarks .In b = false := by rfl) : PFT ρ X dx (.Compare a [.In] [b] pos) (fTst (fOp opIn f1 f2)) := pdt_mono (pdt_or2 (pdt_cmp (OpR.or (op_inD hu) op_in_seq) hm (RefOp.or ref_inL ref_in) ha hb) (tst_of (pc_din (by omega) ha hb) hm ref_inDt)) (rd_top2 (in_says false opIn fun _ _ _ => rfl))
theorem qt_notIn (hu : X.A.units + 65 < cLine) (ha : PF ρ X dx a f1) (hb : PF ρ X dx b f2) (hm : behindInMarks .NotIn b = false := by rfl) : PFT ρ X dx (.Compare a [.NotIn] [b] pos) (fTst (fOp opNotIn f1 f2)) := pdt_mono (pdt_or2 (pdt_cmp (OpR.or (op_notInD hu) op_notIn_seq) hm (RefOp.or ref_notInL ref_notIn) ha hb) (tst_of (pc_dnotin (by omega) ha hb) hm ref_notInDt)) (rd_top2 (in_says true opNotIn fun _ _ _ => rfl))
theorem qt_val (h : PF ρ X dx e f) (he : ∀ whole, isTrue e X.env whole = (do let v ← whole; standAt e.pos; holding [v] (truthy v)) := by intro _; rfl) : PFT ρ X dx e (fTst f) := pdt_mono (pdt_val h he) rd_tst
theorem q_one {op} (h : PF ρ X dx a f) : PF ρ X dx (.BoolOp op [a] pos) f := pd_one h
theorem q_and {rest : List Expr} (ha : PF ρ X dx a f1) (hb : PF ρ X dx (.BoolOp .And (b :: rest) pos) f2) : PF ρ X dx (.BoolOp .And (a :: b :: rest) pos) (fAnd f1 f2) := pd_mono (pd_and ha hb) fun g k h => by
  refine go_mono (go_bind.mp h) fun r g1 h1 => ?_
  split at h1
  · rename_i c
    refine ⟨c, rfl, ?_⟩
    cases c <;> exact h1
  · exact h1.elim
theorem q_not (ha : PF ρ X dx a f) : PF ρ X dx (.UnaryOp .Not a pos) (fNot f) := pd_mono (pd_not ha) fun g k h => by
  refine go_mono (go_bind.mp h) fun r g1 h1 => ?_
  split at h1
  · exact ⟨_, rfl, h1⟩
  · exact h1.elim
theorem qw_and1 (h : PFT ρ X dx a t) : PFW ρ X dx (.BoolOp .And [a] pos) t := pdw_and1 h
theorem qw_or1 (h : PFT ρ X dx a t) : PFW ρ X dx (.BoolOp .Or [a] pos) t := pdw_or1 h
theorem qw_and {rest : List Expr} (ha : PFT ρ X dx a t) (hb : PFW ρ X dx (.BoolOp .And (b :: rest) pos) u) : PFW ρ X dx (.BoolOp .And (a :: b :: rest) pos) (fAndT t u) := pdw_mono (pdw_and ha hb) fun g k h => by
  refine go_mono (go_bind.mp h) fun c g1 h1 => ?_
  cases c <;> exact h1
theorem qw_or {rest : List Expr} (ha : PFT ρ X dx a t) (hb : PFW ρ X dx (.BoolOp .Or (b :: rest) pos) u) : PFW ρ X dx (.BoolOp .Or (a :: b :: rest) pos) (fOrT t u) := pdw_mono (pdw_or ha hb) fun g k h => by
  refine go_mono (go_bind.mp h) fun c g1 h1 => ?_
  cases c <;> exact h1
theorem qt_w (h : PFW ρ X dx e t) : PFT ρ X dx e t := pdt_w h
theorem qt_not (h : PFT ρ X dx a t) : PFT ρ X dx (.UnaryOp .Not a pos) (fNotT t) := pdt_mono (pdt_not h) fun g k h => go_mono (go_bind.mp h) fun c g1 h1 => h1
theorem q_if (hc : PFT ρ X dx c t) (ha : PF ρ X dx a f1) (hb : PF ρ X dx b f2) : PF ρ X dx (.IfExp c a b pos) (fIf t f1 f2) := pd_mono (pd_if hc ha hb) fun g k h => by
  refine go_mono (go_bind.mp h) fun c g1 h1 => ?_
  cases c <;> exact h1
theorem qts_nil : PFTs ρ X dx [] fYes := pdts_mono pdts_nil fun _ _ h => h
theorem qts_one (h : PFT ρ X dx c t) : PFTs ρ X dx [c] t := pdts_one h
theorem qa_nil : PFA ρ X dx [] fNil := pda_mono pda_nil fun _ _ h => h
theorem qa_cons (ha : PF ρ X dx e f) (hr : PFA ρ X dx es fs) (hs : starEach (e :: es) X.env = (false, eval e X.env) :: starEach es X.env := by rfl) : PFA ρ X dx (e :: es) (fCons f fs) := pda_mono (pda_cons ha hr hs) fun g k h =>
  go_mono (go_bind.mp h) fun r g1 h1 => go_mono (go_bind.mp h1) fun rs g2 h2 => h2
theorem q_tup {x1 : Nat} (h : PFA ρ X dx es fs) : PF ρ X dx (.Tuple es x1 pos) (fTup fs) := pd_mono (pd_tup h) fun g k h => go_mono (go_bind.mp h) fun rs g1 h1 => by
  split at h1
  · rename_i ds e
    split at h1
    · rename_i hl; exact ⟨ds, asData_eq e, hl, h1⟩
    · exact h1.elim
  · exact h1.elim
theorem q_lst (h : PFA ρ X dx es fs) : PF ρ X dx (.List es pos) (fLst fs) := pd_mono (pd_lst h) fun g k h => go_mono (go_bind.mp h) fun rs g1 h1 => by
  split at h1
  · rename_i ds e
    split at h1
    · rename_i hl; exact ⟨ds, asData_eq e, hl, h1⟩
    · exact h1.elim
  · exact h1.elim
theorem q_lstO (h : PFA ρ X dx es fs) : PF ρ X dx (.List es pos) (fLstO fs) := pd_mono (pd_lstO h) fun g k h => go_mono (go_bind.mp h) fun rs g1 h1 => by
  split at h1
  · rename_i ds e
    split at h1
    · rename_i hl; exact ⟨ds, asData_eq e, hl, h1⟩
    · exact h1.elim
  · exact h1.elim
theorem q_dict0T : PF ρ X dx (.Dict [] [] pos) fDict0T := pd_mono (pe_imp pe_dnewT fun s H Q ⟨F, g, tm, k, B, al, S, hk, q⟩ => fun p hp => q _ _ _ _ B (al ++ [p]) hk ((S.own hp (ct := .dT []) ⟨[], upd_same, .nil⟩).push ⟨p, S.own_at, rfl⟩)) fun g k h => h
theorem qo_none : PFO ρ X dx none fNoP := pdo_mono pdo_none fun _ _ h => h
theorem qo_some (h : PF ρ X dx e f) : PFO ρ X dx (some e) (fPart f) := pdo_mono (pdo_some h) fun g k h => go_mono (go_bind.mp h) fun r g1 h1 => by
  split at h1
  · exact ⟨_, rfl, h1⟩
  · exact h1.elim
theorem q_sl {fl fh : FO} {lo hi : Option Expr} {p2 : Pos} (he : PF ρ X dx e f) (hl : PFO ρ X dx lo fl) (hh : PFO ρ X dx hi fh) : PF ρ X dx (.Subscript e (.Slice lo hi none p2) pos) (fSl f fl fh) := pd_mono (pd_sl he hl hh) fun g k h =>
  go_mono (go_bind.mp h) fun r g1 h1 => go_mono (go_bind.mp h1) fun lo g2 h2 => go_mono (go_bind.mp h2) fun hi g3 h3 => by
    split at h3
    · rename_i t ds e; exact ⟨t, ds, e, h3⟩
    · exact h3.elim
theorem q_rev {kk : Nat} {p1 p2 p3 : Pos} (he : PF ρ X dx e f) : PF ρ X dx (.Subscript e (.Slice none none (some (.UnaryOp .USub (.Constant (.int 1) kk p1) p2)) p3) pos) (fRev f) := pd_mono (pd_revB he) fun g k h => go_mono (go_bind.mp h) fun r g1 h1 => by
    split at h1
    · rename_i t ds e; exact ⟨t, ds, e, h1⟩
    · exact h1.elim
def SaysC (c : Cl) (dr : DCl) : Prop := ∀ rs g k r, c g rs = some r → k r g → dr rs g k
theorem rd_cl {c : Cl} {dr : DCl} (h : SaysC c dr) : ∀ g k, rd dx (fCl c fs) g k → dCall dr (rd dx fs) g k := fun g k hk => go_mono (go_bind.mp hk) fun rs g1 h1 => by
  obtain ⟨r, e, hr⟩ := go_ofO h1
  exact h rs g1 k r e hr
theorem sc_len : SaysC clLen cLen := fun rs g k r e hk => by
  unfold clLen at e
  split at e
  · split at e
    · rename_i t ds hs; cases e; exact ⟨_, t, ds, rfl, hs, hk⟩
    · cases e
  · cases e
theorem sc_abs : SaysC clAbs cAbs := fun rs g k r e hk => by
  unfold clAbs at e
  split at e
  · cases e; exact ⟨_, rfl, hk⟩
  · cases e
theorem sc_min : SaysC clMin cMin2 := fun rs g k r e hk => by
  unfold clMin at e
  split at e
  · cases e; exact ⟨_, _, rfl, hk⟩
  · cases e
theorem sc_int : SaysC clInt cIntB := fun rs g k r e hk => by
  unfold clInt at e
  split at e
  · cases e; exact ⟨_, rfl, hk⟩
  · cases e
theorem sc_tuple : SaysC clTuple cTuple := fun rs g k r e hk => by
  unfold clTuple at e
  split at e
  · split at e
    · rename_i t ds hs; cases e; exact ⟨_, t, ds, rfl, hs, hk⟩
    · cases e
  · cases e
theorem sc_all : SaysC clAll cAll := fun rs g k r e hk => by
  unfold clAll at e
  split at e
  · split at e
    · rename_i ds hs
      cases ha : asBools ds with
      | none => rw [ha] at e; cases e
      | some bs => rw [ha] at e; cases e; rw [asBools_eq ha] at hs; exact ⟨_, bs, rfl, hs, hk⟩
    · cases e
  · cases e
theorem sc_any : SaysC clAny cAny := fun rs g k r e hk => by
  unfold clAny at e
  split at e
  · split at e
    · rename_i ds hs
      cases ha : asBools ds with
      | none => rw [ha] at e; cases e
      | some bs => rw [ha] at e; cases e; rw [asBools_eq ha] at hs; exact ⟨_, bs, rfl, hs, hk⟩
    · cases e
  · cases e
section
variable {p : Pos} (hc : X.calm = true)
theorem q_len (hc : X.calm = true) (hg : Gl X "len") (hm : X.mg "len" = none) (ha : PFA ρ X dx (e :: es) fs) (he : starEach (e :: es) X.env = (false, eval e X.env) :: starEach es X.env := by rfl) (hpl : (backTo pos (starEach es X.env)).any (·.1) = false := by rfl) : PF ρ X dx (.Call (.Name "len" p) (e :: es) [] pos) (fCl clLen fs) := pd_mono (pd_len hc hg hm ha he hpl) (rd_cl sc_len)
theorem q_abs (hc : X.calm = true) (hg : Gl X "abs") (hm : X.mg "abs" = none) (ha : PFA ρ X dx (e :: es) fs) (he : starEach (e :: es) X.env = (false, eval e X.env) :: starEach es X.env := by rfl) (hpl : (backTo pos (starEach es X.env)).any (·.1) = false := by rfl) : PF ρ X dx (.Call (.Name "abs" p) (e :: es) [] pos) (fCl clAbs fs) := pd_mono (pd_abs hc hg hm ha he hpl) (rd_cl sc_abs)
theorem q_min (hc : X.calm = true) (hg : Gl X "min") (hm : X.mg "min" = none) (ha : PFA ρ X dx (e :: es) fs) (he : starEach (e :: es) X.env = (false, eval e X.env) :: starEach es X.env := by rfl) (hpl : (backTo pos (starEach es X.env)).any (·.1) = false := by rfl) : PF ρ X dx (.Call (.Name "min" p) (e :: es) [] pos) (fCl clMin fs) := pd_mono (pd_min2 hc hg hm ha he hpl) (rd_cl sc_min)
theorem q_intB (hc : X.calm = true) (hg : Gl X "int") (hm : X.mg "int" = none) (ha : PFA ρ X dx (e :: es) fs) (he : starEach (e :: es) X.env = (false, eval e X.env) :: starEach es X.env := by rfl) (hpl : (backTo pos (starEach es X.env)).any (·.1) = false := by rfl) : PF ρ X dx (.Call (.Name "int" p) (e :: es) [] pos) (fCl clInt fs) := pd_mono (pd_int1 hc hg hm ha he hpl) (rd_cl sc_int)
theorem q_listO (hc : X.calm = true) (hg : Gl X "list") (hm : X.mg "list" = none) (ha : PFA ρ X dx (e :: es) fs) (he : starEach (e :: es) X.env = (false, eval e X.env) :: starEach es X.env := by rfl) (hpl : (backTo pos (starEach es X.env)).any (·.1) = false := by rfl) : PF ρ X dx (.Call (.Name "list" p) (e :: es) [] pos) (fListO fs) := pd_mono (pd_list1O hc hg hm ha he hpl) fun g k h => go_mono (go_bind.mp h) fun rs g1 h1 => by
  split at h1
  · split at h1
    · rename_i t ds hs; exact ⟨_, t, ds, rfl, hs, h1⟩
    · exact h1.elim
  · exact h1.elim
theorem q_tuple (hc : X.calm = true) (hg : Gl X "tuple") (hm : X.mg "tuple" = none) (ha : PFA ρ X dx (e :: es) fs) (he : starEach (e :: es) X.env = (false, eval e X.env) :: starEach es X.env := by rfl) (hpl : (backTo pos (starEach es X.env)).any (·.1) = false := by rfl) : PF ρ X dx (.Call (.Name "tuple" p) (e :: es) [] pos) (fCl clTuple fs) := pd_mono (pd_tuple1 hc hg hm ha he hpl) (rd_cl sc_tuple)
theorem q_all (hc : X.calm = true) (hg : Gl X "all") (hm : X.mg "all" = none) (ha : PFA ρ X dx (e :: es) fs) (he : starEach (e :: es) X.env = (false, eval e X.env) :: starEach es X.env := by rfl) (hpl : (backTo pos (starEach es X.env)).any (·.1) = false := by rfl) : PF ρ X dx (.Call (.Name "all" p) (e :: es) [] pos) (fCl clAll fs) := pd_mono (pd_all1 hc hg hm ha he hpl) (rd_cl sc_all)
theorem q_any (hc : X.calm = true) (hg : Gl X "any") (hm : X.mg "any" = none) (ha : PFA ρ X dx (e :: es) fs) (he : starEach (e :: es) X.env = (false, eval e X.env) :: starEach es X.env := by rfl) (hpl : (backTo pos (starEach es X.env)).any (·.1) = false := by rfl) : PF ρ X dx (.Call (.Name "any" p) (e :: es) [] pos) (fCl clAny fs) := pd_mono (pd_any1 hc hg hm ha he hpl) (rd_cl sc_any)
end
theorem q_isi {p p1 : Pos} {x : Str} {T : String} (hT : isTy T) (hg : Gl X "isinstance") (hm : X.mg "isinstance" = none) (hgT : Gl X x) (hmT : X.mg x = none) (hv : bootBuiltins x = some (.type T)) (he : PF ρ X dx e f) (hn : x ≠ "__name__" := by decide) (hd : (x == ("__debug__" : Str)) = false := by decide)
    (hs : starEach [e, .Name x p1] X.env = (false, eval e X.env) :: starEach [.Name x p1] X.env := by rfl) : PF ρ X dx (.Call (.Name "isinstance" p) [e, .Name x p1] [] pos) (fIsi T f) := pd_mono (pd_isi hT hg hm hgT hmT hv he hn hd hs) fun g k h => go_mono (go_bind.mp h) fun r g1 h1 => by
  split at h1
  · rename_i t ht; exact ⟨t, ht, h1⟩
  · exact h1.elim
theorem q_isi2 {p p1 p2 p3 : Pos} {x y : Str} {T U : String} {kt : Nat} (hT : isTy T) (hU : isTy U) (hg : Gl X "isinstance") (hm : X.mg "isinstance" = none) (hgT : Gl X x) (hmT : X.mg x = none) (hv : bootBuiltins x = some (.type T)) (hgU : Gl X y) (hmU : X.mg y = none) (hvU : bootBuiltins y = some (.type U)) (he : PF ρ X dx e f)
    (hn : x ≠ "__name__" := by decide) (hd : (x == ("__debug__" : Str)) = false := by decide) (hn' : y ≠ "__name__" := by decide) (hd' : (y == ("__debug__" : Str)) = false := by decide)
    (hs : starEach [e, .Tuple [.Name x p1, .Name y p2] kt p3] X.env = (false, eval e X.env) :: starEach [.Tuple [.Name x p1, .Name y p2] kt p3] X.env := by rfl) :
    PF ρ X dx (.Call (.Name "isinstance" p) [e, .Tuple [.Name x p1, .Name y p2] kt p3] [] pos) (fIsi2 T U f) := pd_mono (pd_isi2 hT hU hg hm hgT hmT hv hgU hmU hvU he hn hd hn' hd' hs) fun g k h => go_mono (go_bind.mp h) fun r g1 h1 => by
  split at h1
  · rename_i t ht; exact ⟨t, ht, h1⟩
  · exact h1.elim
end
end DL
set_option Elab.async false
set_option linter.all false
set_option maxRecDepth 100000
set_option maxHeartbeats 4000000
set_option autoImplicit false
namespace DL
open PySem PySem.Spec PyProof.Rows L2
section
variable {ρ : Root} {X : Cx} {dx : DX} {e a b c o tg : Expr} {es : List Expr} {pos : Pos} {f f1 f2 f3 : FE} {fs : FAr} {t u : FT}
def SaysM (m : Mt) (dm : DM) : Prop := ∀ r rs g k q g', m g r rs = some (q, g') → k q g' → dm r rs g k
theorem rd_mt {m : Mt} {dm : DM} (h : SaysM m dm) : ∀ g k, rd dx (fMt m f fs) g k → dMeth dm (rd dx f) (rd dx fs) g k := fun g k hk => go_mono (go_bind.mp hk) fun r g1 h1 => by
  split at h1
  · rename_i hl
    refine ⟨?_, go_mono (go_bind.mp h1) fun rs g2 h2 => ?_⟩
    · unfold isLst at hl
      split at hl
      · rename_i ds e; exact ⟨ds, e⟩
      · cases hl
    · cases hm : m g2 r rs with
      | none => rw [hm] at h2; exact h2.elim
      | some p => rw [hm] at h2; exact h r rs g2 k p.1 p.2 hm h2
  · exact h1.elim
theorem sm_append : SaysM mtAppend mAppend := fun r rs g k q g' e hk => by
  unfold mtAppend at e
  split at e
  · obtain ⟨j, ds, es, rfl, h1, h2, rfl⟩ := onL_eq e
    split at h2
    · rename_i hl; cases h2; exact ⟨j, ds, _, rfl, rfl, h1, hl, hk⟩
    · cases h2
  · cases e
theorem sm_insert : SaysM mtInsert mInsert := fun r rs g k q g' e hk => by
  unfold mtInsert at e
  split at e
  · obtain ⟨j, ds, es, rfl, h1, h2, rfl⟩ := onL_eq e
    split at h2
    · rename_i hl; cases h2; exact ⟨j, ds, _, _, rfl, rfl, h1, hl.1, hl.2.1, hl.2.2, hk⟩
    · cases h2
  · cases e
theorem sm_pop : SaysM mtPop mPopAt := fun r rs g k q g' e hk => by
  unfold mtPop at e
  split at e
  · obtain ⟨j, ds, es, rfl, h1, h2, rfl⟩ := onL_eq e
    unfold popL at h2
    split at h2
    · rename_i hl
      split at h2
      · rename_i n hn
        split at h2
        · rename_i x hx; cases h2; exact ⟨j, ds, _, n, x, rfl, rfl, h1, hl.1, hl.2, hn, hx, hk⟩
        · cases h2
      · cases h2
    · cases h2
  · cases e
theorem sm_index : SaysM mtIndex mIndex := fun r rs g k q g' e hk => by
  unfold mtIndex at e
  split at e
  · split at e
    · rename_i ds d e1 e2
      split at e
      · rename_i hc
        simp only [Bool.and_eq_true] at hc
        cases hf : ds.findIdx? (fun z => PyData.eqv z d) with
        | none => rw [hf] at e; cases e
        | some n => rw [hf] at e; cases e; exact ⟨ds, _, d, n, e1, rfl, e2, hc.1, hc.2, hf, hk⟩
      · cases e
    · cases e
  · cases e
section
variable {apos cpos : Pos}
theorem q_append (ho : PF ρ X dx o f) (ha : PFA ρ X dx (e :: es) fs)
    (hbase : attributeBase o "append" X.env (eval o X.env) = eval o X.env := by rfl)
    (hfew : ((backTo cpos (starEach (e :: es) X.env)).all (fun x => !x.1) && (backToKw cpos (keywordEach [] X.env)).all (fun x => x.1.isSome) && decide ((e :: es).length + ([] : List Keyword).length + (if ([] : List Keyword).isEmpty then 0 else 1) < 30)) = true := by rfl)
    (hline : (apos.endLine == cpos.line) = true := by rfl) (hs : starEach (e :: es) X.env = (false, eval e X.env) :: starEach es X.env := by rfl) (hplain : (backTo cpos (starEach es X.env)).any (·.1) = false := by rfl) :
    PF ρ X dx (.Call (.Attribute o "append" apos) (e :: es) [] cpos) (fMt mtAppend f fs) := pd_mono (pd_append ho ha hbase hfew hline hs hplain) (rd_mt sm_append)
theorem q_insert (ho : PF ρ X dx o f) (ha : PFA ρ X dx (e :: es) fs)
    (hbase : attributeBase o "insert" X.env (eval o X.env) = eval o X.env := by rfl)
    (hfew : ((backTo cpos (starEach (e :: es) X.env)).all (fun x => !x.1) && (backToKw cpos (keywordEach [] X.env)).all (fun x => x.1.isSome) && decide ((e :: es).length + ([] : List Keyword).length + (if ([] : List Keyword).isEmpty then 0 else 1) < 30)) = true := by rfl)
    (hline : (apos.endLine == cpos.line) = true := by rfl) (hs : starEach (e :: es) X.env = (false, eval e X.env) :: starEach es X.env := by rfl) (hplain : (backTo cpos (starEach es X.env)).any (·.1) = false := by rfl) :
    PF ρ X dx (.Call (.Attribute o "insert" apos) (e :: es) [] cpos) (fMt mtInsert f fs) := pd_mono (pd_insert ho ha hbase hfew hline hs hplain) (rd_mt sm_insert)
theorem q_pop (ho : PF ρ X dx o f) (ha : PFA ρ X dx (e :: es) fs)
    (hbase : attributeBase o "pop" X.env (eval o X.env) = eval o X.env := by rfl)
    (hfew : ((backTo cpos (starEach (e :: es) X.env)).all (fun x => !x.1) && (backToKw cpos (keywordEach [] X.env)).all (fun x => x.1.isSome) && decide ((e :: es).length + ([] : List Keyword).length + (if ([] : List Keyword).isEmpty then 0 else 1) < 30)) = true := by rfl)
    (hline : (apos.endLine == cpos.line) = true := by rfl) (hs : starEach (e :: es) X.env = (false, eval e X.env) :: starEach es X.env := by rfl) (hplain : (backTo cpos (starEach es X.env)).any (·.1) = false := by rfl) :
    PF ρ X dx (.Call (.Attribute o "pop" apos) (e :: es) [] cpos) (fMt mtPop f fs) := pd_mono (pd_popAt ho ha hbase hfew hline hs hplain) (rd_mt sm_pop)
theorem q_index (hu : X.A.units + 65 < cLine) (ho : PF ρ X dx o f) (ha : PFA ρ X dx (e :: es) fs)
    (hbase : attributeBase o "index" X.env (eval o X.env) = eval o X.env := by rfl)
    (hfew : ((backTo cpos (starEach (e :: es) X.env)).all (fun x => !x.1) && (backToKw cpos (keywordEach [] X.env)).all (fun x => x.1.isSome) && decide ((e :: es).length + ([] : List Keyword).length + (if ([] : List Keyword).isEmpty then 0 else 1) < 30)) = true := by rfl)
    (hline : (apos.endLine == cpos.line) = true := by rfl) (hs : starEach (e :: es) X.env = (false, eval e X.env) :: starEach es X.env := by rfl) (hplain : (backTo cpos (starEach es X.env)).any (·.1) = false := by rfl) :
    PF ρ X dx (.Call (.Attribute o "index" apos) (e :: es) [] cpos) (fMt mtIndex f fs) := pd_mono (pd_index hu ho ha hbase hfew hline hs hplain) (rd_mt sm_index)
end
theorem qg_name {ws : List Nat} (i : Nat) {x : Str} (hN : X.N.Nodup) (hw : i ∈ ws) (hi : X.N[i]? = some x) (hx : Loc X.env.scope x) (hf : X.fn x = true ∨ X.env.scope.names.lookup x = some .local := by first | exact .inl rfl | exact .inr rfl | assumption) : PFG ρ X dx ws (.Name x pos) (tN i) := pdg_mono (pdg_name i hN hw hi hx hf) fun _ _ _ h => h
theorem qgs_nil {ws : List Nat} : PFGs ρ X dx ws [] tNil := pdgs_mono pdgs_nil fun rs g k h => by
  cases rs with
  | nil => exact ⟨rfl, h⟩
  | cons r rs => exact absurd h id
theorem qgs_cons {ws : List Nat} {t : FG} {u : FGs} (h1 : PFG ρ X dx ws e t) (h2 : PFGs ρ X dx ws es u) (hs : (assignEach (e :: es) X.env).map (·.2) = assign e X.env :: (assignEach es X.env).map (·.2) := by rfl) : PFGs ρ X dx ws (e :: es) (tCons t u) := pdgs_mono (pdgs_cons h1 h2 hs) fun rs g k h => by
  cases rs with
  | nil => exact absurd h id
  | cons r rs => exact ⟨r, rs, rfl, go_mono (go_bind.mp h) fun _ g1 h1 => h1⟩
theorem qg_subL {ws : List Nat} {o i : Expr} (ho : PF ρ X dx o f1) (hi : PF ρ X dx i f2)
    (ha : ∀ v, assign (.Subscript o i pos) X.env v = (do
      let ov ← holding [v] (eval o X.env)
      let iv ← holding [v, ov] (eval i X.env)
      standAt pos
      holding [v, ov, iv] (setItem ov iv v)
      release [v, ov, iv] []) := by intro _; rfl) : PFG ρ X dx ws (.Subscript o i pos) (tSub f1 f2) := pdg_mono (pdg_subL ho hi ha) fun r g k h => go_mono (go_bind.mp h) fun r1 g1 h1 => go_mono (go_bind.mp h1) fun r2 g2 h2 => by
  split at h2
  · rename_i x i
    split at h2
    · rename_i q g3 hq
      obtain ⟨j, ds, es, rfl, e1, e2, rfl⟩ := onL_eq hq
      cases hn : ixN ds.length i with
      | none => rw [hn] at e2; cases e2
      | some n => rw [hn] at e2; cases e2; exact ⟨j, ds, i, n, x, rfl, e1, rfl, hn, rfl, h2⟩
    · exact h2.elim
  · exact h2.elim
end
section
variable {ρ : Root} {X : Cx} {dx : DX} {st : Stmt} {rest : List Stmt} {e c tg : Expr} {pos : Pos} {f : FE} {fs : FAr} {t : FT} {u v : FS}
theorem qss_nil : PFSs ρ X dx [] sNx := pdss_mono pdss_nil fun _ _ h => h
theorem rs_sq : ∀ E g, rS dx (sSq u v) E g → sSeq (rS dx u) (rS dx v) E g := fun E g h => go_mono (go_bind.mp h) fun fl g1 h1 => by
  cases fl <;> exact h1
theorem qss_cons (h1 : PFS ρ X dx st u) (h2 : PFSs ρ X dx rest v) : PFSs ρ X dx (st :: rest) (sSq u v) := pdss_mono (pdss_cons h1 h2) rs_sq
theorem qss_one (h1 : PFS ρ X dx st u) : PFSs ρ X dx [st] u := pdss_one h1
theorem qs_expr (he : PF ρ X dx e f) (hs : swapsWith e none pos.line X.env = pure false := by rfl) : PFS ρ X dx (.Expr e pos) (sEx f) := pds_mono (pds_expr he hs) fun E g h => go_mono (go_bind.mp h) fun _ _ h1 => h1
theorem qs_ret (he : PF ρ X dx e f) : PFS ρ X dx (.Return (some e) pos) (sRt f) := pds_mono (pds_ret he) fun E g h => go_mono (go_bind.mp h) fun _ _ h1 => h1
theorem qs_if {a b : List Stmt} (hc : PFT ρ X dx c t) (ha : PFSs ρ X dx a u) (hb : PFSs ρ X dx b v) : PFS ρ X dx (.If c a b pos) (sIte t u v) := pds_mono (pds_if hc ha hb) fun E g h => go_mono (go_bind.mp h) fun c g1 h1 => by
  cases c <;> exact h1
theorem rs_set {t : FG} : ∀ E g, rS dx (sSet f t) E g → sAsg (rd dx f) (rG dx t) E g := fun E g h => go_mono (go_bind.mp h) fun r g1 h1 => go_mono (go_bind.mp h1) fun _ g2 h2 => h2
theorem qs_asg {ws : List Nat} {t : FG} (he : PF ρ X dx e f) (hg : PFG ρ X dx ws tg t) (hs : swapsWithSole [tg] e pos.line X.env = pure false := by rfl) (hw : swappedStores [tg] e X.env = pure none := by rfl)
    (h1 : (assignEach [tg] X.env).map (·.2) = [assign tg X.env] := by rfl) : PFS ρ X dx (.Assign [tg] e pos) (sSet f t) := pds_mono (pds_asg he hg hs hw h1) rs_set
theorem qs_set {i : Nat} {x : Str} {pos' : Pos} (hN : X.N.Nodup) (hi : X.N[i]? = some x) (hx : Loc X.env.scope x) (he : PF ρ X dx e f) (hs : swapsWith e (some (.Name x pos')) pos.line X.env = pure false := by rfl)
    (hf : X.fn x = true ∨ X.env.scope.names.lookup x = some .local := by first | exact .inl rfl | exact .inr rfl | assumption) : PFS ρ X dx (.Assign [.Name x pos'] e pos) (sSet f (tN i)) := pds_mono (pds_set hN hi hx he hs hf) fun E g h => go_mono (go_bind.mp h) fun r g1 h1 => h1
theorem qs_par {i j : Nat} {x y : Str} {a b : Expr} {px py pt : Pos} {kt k2 pt2} (hc : X.calm = true) (hN : X.N.Nodup) (hi : X.N[i]? = some x) (hj : X.N[j]? = some y) (hij : i ≠ j)
    (hx : X.env.scope.names.lookup x = some .local) (hy : X.env.scope.names.lookup y = some .local) (ha : PFA ρ X dx [a, b] fs) (hw : swappedStores [.Tuple [.Name x px, .Name y py] kt pt] (.Tuple [a, b] k2 pt2) X.env = pure (some [x, y]))
    (hs : swapsWithSole [.Tuple [.Name x px, .Name y py] kt pt] (.Tuple [a, b] k2 pt2) pos.line X.env = pure false := by rfl) : PFS ρ X dx (.Assign [.Tuple [.Name x px, .Name y py] kt pt] (.Tuple [a, b] k2 pt2) pos) (sP2 i j fs) :=
  pds_mono (pds_par hc hN hi hj hij hx hy ha hw hs) fun E g h => go_mono (go_bind.mp h) fun rs g1 h1 => by
    split at h1
    · exact ⟨_, _, rfl, h1⟩
    · exact h1.elim
theorem qs_putD {o i value : Expr} {pos' : Pos} {fd fi fv : FE} (hu : X.A.units + 1 < cLine) (ho : PF ρ X dx o fd) (hi : PF ρ X dx i fi) (hv : PF ρ X dx value fv) (hs : swapsWith value (some (.Subscript o i pos')) pos.line X.env = pure false := by rfl) :
    PFS ρ X dx (.Assign [.Subscript o i pos'] value pos) (sPut fd fi fv) := ps_imp (ps_dput hu ho hi hv hs) fun D s H ⟨F, g, tm, E, B, al, S, h, ok⟩ =>
  ⟨F, g, tm, _, B, al, S, go_bind.mp h, fun v H1 rv g1 B1 al1 hk1 S1 => ⟨F, g1, (v, rv) :: tm, _, B1, al1, S1, go_bind.mp hk1, fun x H2 rdd g2 B2 al2 hk2 S2 => ⟨F, g2, (x, rdd) :: (v, rv) :: tm, _, B2, al2, S2, go_bind.mp hk2, fun y H3 ri g3 B3 al3 h3 S3 => by
    split at h3
    · rename_i xd j key
      split at h3
      · rename_i ct hct
        split at h3
        · rename_i ct' hp
          obtain ⟨p, hpa, ex⟩ := S3.tm (x, R.o j) (by simp)
          have ex : x = .ref p := ex
          subst ex
          have hy : Dq B3 y key := S3.top rfl
          have hv2 : Dq B3 v xd := S3.tm (v, R.d xd) (by simp)
          have hc := S3.ce j p _ hpa hct
          have T := S3.temps (tm' := tm) fun z hz => List.mem_cons_of_mem _ (List.mem_cons_of_mem _ (List.mem_cons_of_mem _ hz))
          cases ct with
          | dead => cases hp
          | lst ds => cases hp
          | dK kvs =>
            obtain ⟨us, h1, h2⟩ := hc
            simp only [dPut] at hp
            split at hp
            · rename_i hl
              cases hk : keyOf key with
              | none => rw [hk] at hp; cases hp
              | some k =>
                rw [hk] at hp
                cases hp
                refine ⟨p, _, rfl, .inl ⟨us, k, h1, key_ok hy hk, ?_, rfl⟩, ok.nx s _ _ B3 al3 h3 (T.put hpa hct (by simp) ⟨_, upd_same, put_okP hv2 h2⟩)⟩
                rw [Paired.length h2]
                exact sz_lt hl
            · cases hp
          | dN kvs => simp only [dPut] at hp; cases hp
          | dL kvs => simp only [dPut] at hp; cases hp
          | dF kvs => simp only [dPut] at hp; cases hp
          | dT kvs =>
            obtain ⟨us, h1, h2⟩ := hc
            simp only [dPut] at hp
            split at hp
            · rename_i hl
              cases hk : tkeyOf key with
              | none => rw [hk] at hp; cases hp
              | some k =>
                rw [hk] at hp
                cases hp
                obtain ⟨b, eb, hb⟩ := tkey_ok hy hk
                refine ⟨p, _, rfl, .inr ⟨us, k, b, h1, eb, S3.bh _ _ hb, ?_, rfl⟩, ok.nx s _ _ B3 al3 h3 (T.put hpa hct (by simp) ⟨_, upd_same, put_okP hv2 h2⟩)⟩
                rw [Paired.length h2]
                exact sz_lt hl
            · cases hp
        · exact h3.elim
      · exact h3.elim
    · exact h3.elim⟩⟩⟩
theorem qs_while {body : List Stmt} (hp : PassesOwn (model X.prog X.w) X.A X.env X.xe) (hc : PFT ρ X dx c t) (hb : PFSs ρ X dx body u) : PFS ρ X dx (.While c body [] pos) (sWh t u) := pds_mono (pds_while hp hc hb) fun E g h => by
  have hn : sWh t u g ≠ .no := fun z => by unfold rS at h; rw [z] at h; exact h
  obtain ⟨n, en⟩ := sWh_ex hn
  refine ⟨fun m g => (whGo t u m g).go dx (flK E), ⟨n, by show (whGo t u n g).go dx (flK E); rw [en]; exact h⟩, fun m g h => ?_⟩
  cases m with
  | zero => exact h.elim
  | succ m =>
    refine go_mono (go_bind.mp h) fun c g1 h1 => ?_
    cases c with
    | false => exact h1
    | true =>
      refine go_mono (go_bind.mp h1) fun fl g2 h2 => ?_
      cases fl with
      | nx => exact ⟨m, Nat.lt_succ_self m, h2⟩
      | ct => exact ⟨m, Nat.lt_succ_self m, h2⟩
      | bk => exact h2
      | rt r => exact h2
theorem qs_for {ws : List Nat} {iter : Expr} {body : List Stmt} {i : FI} {t : FG} (hp : PassesOwn (model X.prog X.w) X.A X.env X.xe) (hc : X.calm = true) (hi : PFI ρ X dx tg iter i) (hg : PFG ρ X dx ws tg t) (hb : PFSs ρ X dx body u)
    (hs : ∀ x, foldedSetIterable iter X.env x = pure x := by intro _; rfl) : PFS ρ X dx (.For tg iter body [] pos) (sFr i t u) := pds_mono (pds_for hp hc hi hg hb hs) fun E g h => go_mono (go_bind.mp h) fun ds g1 h1 => by
  refine ⟨fun i g => (forGo t u (ds.drop i) g).go dx (flK E), h1, fun i g h => ⟨fun e => ?_, fun x hx => ?_⟩⟩
  · have h : (forGo t u (ds.drop i) g).go dx (flK E) := h
    rw [List.drop_of_length_le (by omega)] at h
    exact h
  · have hl := (List.getElem?_eq_some_iff.mp hx).1
    have hx' : ds[i] = x := (List.getElem?_eq_some_iff.mp hx).2
    have h : (forGo t u (ds.drop i) g).go dx (flK E) := h
    rw [List.drop_eq_getElem_cons hl, hx'] at h
    refine go_mono (go_bind.mp h) fun _ g1 h1 => go_mono (go_bind.mp h1) fun fl g2 h2 => ?_
    cases fl with
    | nx => exact h2
    | ct => exact h2
    | bk => exact h2
    | rt r => exact h2
variable {es : List Expr} {a b : Expr} {p : Pos}
theorem qi_seq {l : Expr} (h : PF ρ X dx l f) : PFI ρ X dx tg l (iSeq f) := pdi_mono (pdi_seq h) fun g k h => go_mono (go_bind.mp h) fun r g1 h1 => by
  split at h1
  · rename_i hn
    split at h1
    · rename_i t ds hs; exact ⟨t, ds, hn, hs, h1⟩
    · exact h1.elim
  · exact h1.elim
theorem qi_range1 (hg : Gl X "range") (hm : X.mg "range" = none) (ha : PFA ρ X dx [a] fs) (hs : starEach [a] X.env = [(false, eval a X.env)] := by rfl) : PFI ρ X dx tg (.Call (.Name "range" p) [a] [] pos) (iRg1 fs) := pdi_mono (pdi_range1 hg hm ha hs) fun g k h => go_mono (go_bind.mp h) fun rs g1 h1 => by
  split at h1
  · split at h1
    · rename_i hr
      have hr := of_decide_eq_true hr
      exact ⟨_, rfl, hr.1, hr.2, h1⟩
    · exact h1.elim
  · exact h1.elim
theorem qi_range2 (hg : Gl X "range") (hm : X.mg "range" = none) (ha : PFA ρ X dx [a, b] fs) (hs : starEach [a, b] X.env = [(false, eval a X.env), (false, eval b X.env)] := by rfl) (hs2 : starEach [b] X.env = [(false, eval b X.env)] := by rfl) : PFI ρ X dx tg (.Call (.Name "range" p) [a, b] [] pos) (iRg2 fs) := pdi_mono (pdi_range2 hg hm ha hs hs2) fun g k h => go_mono (go_bind.mp h) fun rs g1 h1 => by
  split at h1
  · split at h1
    · rename_i hr
      simp only [Bool.and_eq_true] at hr
      have h2 := of_decide_eq_true hr.1
      have h3 := of_decide_eq_true hr.2
      exact ⟨_, _, rfl, ⟨h2.1, h2.2, h3.1, h3.2⟩, h1⟩
    · exact h1.elim
  · exact h1.elim
theorem seqD_of {g : G} {x : PyData} {ds : List PyData} (h : seqD x = some ds) : ∃ t, seqOf g (.d x) = some (t, ds) := by
  cases x with
  | list xs => cases h; exact ⟨false, rfl⟩
  | tuple xs => cases h; exact ⟨true, rfl⟩
  | _ => cases h
section
variable {e1 e2 e3 : Expr} {elts : List Expr} {kk : Nat} {tpos kp pc : Pos} {kc : Nat}
theorem rd_z2 : ∀ g k, rd dx (iZ2 fs) g k → iZipS2 (rd dx fs) g k := fun g k h => go_mono (go_bind.mp h) fun rs g1 h1 => by
  split at h1
  · split at h1
    · rename_i xs ys hx hy
      split at h1
      · rename_i hl
        obtain ⟨t1, s1⟩ := seqD_of (g := g1) hx
        obtain ⟨t2, s2⟩ := seqD_of (g := g1) hy
        exact ⟨_, t1, xs, _, t2, ys, rfl, s1, s2, hl, h1⟩
      · exact h1.elim
    · exact h1.elim
  · exact h1.elim
theorem qi_zipP2 (hg : Gl X "zip") (hm : X.mg "zip" = none) (ha : PFA ρ X dx [e1, e2] fs) (hs : starEach [e1, e2] X.env = (false, eval e1 X.env) :: starEach [e2] X.env := by rfl) (hpl : (backTo pos (starEach [e2] X.env)).any (·.1) = false := by rfl) :
    PFI ρ X dx (.Tuple elts kk tpos) (.Call (.Name "zip" p) [e1, e2] [] pos) (iZ2 fs) := pdi_mono (pdi_zipP2 hg hm ha hs hpl) rd_z2
end
theorem rd_lz2 : ∀ g k, rd dx (fCl clLz2 fs) g k → dLZS2 (rd dx fs) g k := fun g k h => go_mono (go_bind.mp h) fun rs g1 h1 => by
  obtain ⟨r, e, hr⟩ := go_ofO h1
  unfold clLz2 at e
  split at e
  · split at e
    · rename_i t1 xs t2 ys hx hy
      split at e
      · rename_i hl; cases e; exact ⟨_, t1, xs, _, t2, ys, rfl, hx, hy, hl, hr⟩
      · cases e
    · cases e
  · cases e
section
variable {e1 e2 e3 : Expr} {kp pc pl posl : Pos} {kc : Nat}
theorem q_lzS2 (hc : X.calm = true) (hgl : Gl X "list") (hml : X.mg "list" = none) (hg : Gl X "zip") (hm : X.mg "zip" = none) (ha : PFA ρ X dx [e1, e2] fs) (hs : starEach [e1, e2] X.env = (false, eval e1 X.env) :: starEach [e2] X.env := by rfl) (hpl : (backTo pos (starEach [e2] X.env)).any (·.1) = false := by rfl)
    (hst : starEach [.Call (.Name "zip" p) [e1, e2] [⟨some "strict", .Constant (.bool true) kc pc, kp⟩] pos] X.env = [(false, eval (.Call (.Name "zip" p) [e1, e2] [⟨some "strict", .Constant (.bool true) kc pc, kp⟩] pos) X.env)] := by rfl) :
    PF ρ X dx (.Call (.Name "list" pl) [.Call (.Name "zip" p) [e1, e2] [⟨some "strict", .Constant (.bool true) kc pc, kp⟩] pos] [] posl) (fCl clLz2 fs) := pd_mono (pd_lzS2 hc hgl hml hg hm ha hs hpl) rd_lz2
end
end
abbrev dx0 : DX := fun _ _ => False
section
variable {ρ : Root} {X : Cx} {dx : DX} {tg iter elt : Expr} {ifs : List Expr} {pos : Pos} {scope : Scope} {own : List (Str × Nat)} {i : FI} {t : FG} {c : FT} {f : FE}
theorem rd_lcAt {ws : List Nat} {k : List PyData → G → Prop} {sl : List (Option R)} {ds : List PyData} {ce : List Ct} (h : (lcGo t c f sl ws ds [] ce).go dx k) :
    ∃ I : Nat → List PyData → List Ct → Prop, I 0 [] ce ∧ ∀ i acc ce, I i acc ce → (i = ds.length → k acc ⟨sl, ce⟩) ∧ ∀ x, ds[i]? = some x → acc.length < 100000 ∧ rG dx0 t (.d x) ⟨wipeG sl ws, ce⟩ fun g2 => rd dx0 c g2 fun b g3 =>
    if b = true then rd dx0 f g3 fun y g4 => ∃ d, y = .d d ∧ I (i + 1) (acc ++ [d]) g4.ce else I (i + 1) acc g3.ce := by
  have noex : ∀ (ds acc : List PyData) (ce : List Ct) n g, lcGo t c f sl ws ds acc ce ≠ .ex n g := by
    intro ds
    induction ds with
    | nil => intro acc ce n g z; cases z
    | cons x ds ih =>
      intro acc ce n g z
      unfold lcGo at z
      split at z
      · split at z
        · split at z
          · split at z
            · exact ih _ _ _ _ z
            · cases z
          · exact ih _ _ _ _ z
          · cases z
        · cases z
      · cases z
  refine ⟨fun i acc ce => (lcGo t c f sl ws (ds.drop i) acc ce).go dx0 k, ?_, fun i acc ce h => ⟨fun e => ?_, fun x hx => ?_⟩⟩
  · show (lcGo t c f sl ws ds [] ce).go dx0 k
    cases hg : lcGo t c f sl ws ds [] ce with
    | ok a g => rw [hg] at h; exact h
    | no => rw [hg] at h; exact h
    | ex n g => exact absurd hg (noex _ _ _ _ _)
  · have h : (lcGo t c f sl ws (ds.drop i) acc ce).go dx0 k := h
    rw [List.drop_of_length_le (by omega)] at h
    exact h
  · have hl := (List.getElem?_eq_some_iff.mp hx).1
    have hx' : ds[i] = x := (List.getElem?_eq_some_iff.mp hx).2
    have h : (lcGo t c f sl ws (ds.drop i) acc ce).go dx0 k := h
    rw [List.drop_eq_getElem_cons hl, hx'] at h
    unfold lcGo at h
    split at h
    · rename_i ha
      refine ⟨ha, ?_⟩
      unfold rG rd
      split at h
      · rename_i g2 ht
        rw [ht]
        show (c g2).go dx0 _
        split at h
        · rename_i g3 hc
          rw [hc]
          simp only [Out.go, if_true]
          split at h
          · rename_i d g4 hf
            rw [hf]
            exact ⟨d, rfl, h⟩
          · exact h.elim
        · rename_i g3 hc
          rw [hc]
          simp only [Out.go, Bool.false_eq_true, if_false]
          exact h
        · exact h.elim
      · exact h.elim
    · exact h.elim
theorem rd_lc {ws : List Nat} : ∀ g k, rd dx (fLc i t c f ws) g k → dLc (rd dx i) (rG dx0 t) (rd dx0 c) (rd dx0 f) ws g k := fun g k h => go_mono (go_bind.mp h) fun ds g1 h1 => rd_lcAt (k := fun acc g => k (.d (.list acc)) g) (go_bind.mp h1)
theorem rd_lcO {ws : List Nat} : ∀ g k, rd dx (fLcO i t c f ws) g k → dLcO (rd dx i) (rG dx0 t) (rd dx0 c) (rd dx0 f) ws g k := fun g k h => go_mono (go_bind.mp h) fun ds g1 h1 => rd_lcAt (k := fun acc g => k (.o g.ce.length) { g with ce := g.ce ++ [.lst acc] }) (go_bind.mp h1)
theorem q_lc (hc : X.calm = true) (hN : X.N.Nodup) (hi : PFI ρ X dx tg iter i) (ok : BlkOk X.N X.env.scope scope own)
    (hg : ∀ (s : Shared) (H : Hp) (C : Addr) (cl : List (Str × Addr)) (fp : List Addr), PFG ρ (X.blk s H scope (compEnvC scope cl C X.env) fp) dx0 (own.map (·.2)) tg t)
    (ht : ∀ (s : Shared) (H : Hp) (C : Addr) (cl : List (Str × Addr)) (fp : List Addr), PFTs ρ (X.blk s H scope (compEnvC scope cl C X.env) fp) dx0 ifs c)
    (he : ∀ (s : Shared) (H : Hp) (C : Addr) (cl : List (Str × Addr)) (fp : List Addr), PF ρ (X.blk s H scope (compEnvC scope cl C X.env) fp) dx0 elt f) (hs : ∀ x, foldedSetIterable iter X.env x = pure x := by intro _; rfl) :
    PF ρ X dx (.ListComp elt [⟨tg, iter, ifs, 0⟩] scope pos) (fLc i t c f (own.map (·.2))) := pd_mono (pd_lc hc hN hi ok hg ht he hs) rd_lc
theorem q_lcO (hc : X.calm = true) (hN : X.N.Nodup) (hi : PFI ρ X dx tg iter i) (ok : BlkOk X.N X.env.scope scope own)
    (hg : ∀ (s : Shared) (H : Hp) (C : Addr) (cl : List (Str × Addr)) (fp : List Addr), PFG ρ (X.blk s H scope (compEnvC scope cl C X.env) fp) dx0 (own.map (·.2)) tg t)
    (ht : ∀ (s : Shared) (H : Hp) (C : Addr) (cl : List (Str × Addr)) (fp : List Addr), PFTs ρ (X.blk s H scope (compEnvC scope cl C X.env) fp) dx0 ifs c)
    (he : ∀ (s : Shared) (H : Hp) (C : Addr) (cl : List (Str × Addr)) (fp : List Addr), PF ρ (X.blk s H scope (compEnvC scope cl C X.env) fp) dx0 elt f) (hs : ∀ x, foldedSetIterable iter X.env x = pure x := by intro _; rfl) :
    PF ρ X dx (.ListComp elt [⟨tg, iter, ifs, 0⟩] scope pos) (fLcO i t c f (own.map (·.2))) := pd_mono (pd_lcO hc hN hi ok hg ht he hs) rd_lcO
end
end DL
set_option Elab.async false
set_option linter.all false
set_option maxRecDepth 100000
set_option maxHeartbeats 4000000
set_option autoImplicit false
namespace DL
open PySem PySem.Spec PyProof.Rows L2
/-- the promise: the def does what the function f says -/
def spF (fr : PySem.W.Frag) (cl : Str → Addr) (n : Nat) (f : Fn) : Sp := fun vs H Q E => ∃ (B O : Hp) (ps : List Addr) (bx : List Ct) (rs : List R), vs.length = n ∧ Stt (kAt fr cl B O ps) ⟨B, O, ps⟩ ⟨[], bx⟩ [] [] H B ps ∧ Paired (RvOk (kAt fr cl B O ps) B ps) vs rs ∧ f rs bx ≠ .no ∧
  (∀ v H' q bx' B' al' ce', f rs bx = .ok q bx' → bx'.length = ps.length → Stt (kAt fr cl B O ps) ⟨B, O, ps⟩ ⟨[], bx' ++ ce'⟩ [] [] H' B' al' → ResOk B' al' (bx' ++ ce') ps.length v q → Q v H') ∧
  ∀ n cls d H' bx' B' al' ce', f rs bx = .ex n bx' → bx'.length = ps.length → Stt (kAt fr cl B O ps) ⟨B, O, ps⟩ ⟨[], bx' ++ ce'⟩ [] [] H' B' al' → XnOk (kAt fr cl B O ps) B' n cls d → E cls d H'
section
variable {P : Program} {w : World} {fr : PySem.W.Frag} {mg : Str → Option Value} {base : Heap} {cl : Str → Addr}
theorem split_ce {K : KR} {F : Fm} {g : G} {H B : Hp} {al : List Addr} (S : Stt K F g [] [] H B al) : ∃ ce', g.ce = g.ce.take F.P.length ++ ce' ∧ (g.ce.take F.P.length).length = F.P.length := by
  obtain ⟨t, ht⟩ := S.pre
  refine ⟨g.ce.drop F.P.length, (List.take_append_drop _ _).symm, ?_⟩
  rw [List.length_take, ← S.len, ht, List.length_append]
  omega
/-- THE RULE for a def -/
theorem fnF {x qual : Str} {st : Stmt} {f : Addr} {fd : FuncData} {N ps : List Str} {k : Nat} {u : FS} (F : Fun fr x qual st f fd) (S : FnScope N ps (defScope st))
    (body : ∀ (cdv : Value) (A : Around) (outer : List Env) (s : Shared) (H : Hp) (E : XK) (ρ : Root) (dx : DX), ρ.cl = cl → Calm k (A.deeper (envOfC qual (defScope st) s.heap.objs.size f cdv)) →
      Takes (cxOf (L2.CX P w) P w fr mg base N qual (defScope st) f cdv A outer s H E) (liftX ⟨fr, ρ⟩ dx) →
      PFSs ρ (cxOf (L2.CX P w) P w fr mg base N qual (defScope st) f cdv A outer s H E) dx (defBody st) u) : FnG P w fr mg base (L2.CX P w) (k + 1) f fd ps (spF fr cl ps.length (mkFn N.length u)) := by
  refine DL.Fun.goes F S (fun vs H Q E h => ?_) (fun cdv A outer s H vs Q E hr h => ?_)
  · obtain ⟨B, O, ps, bx, rs, hl, _⟩ := h
    exact hl
  · obtain ⟨B, O, pp, bx, rs, hl, S0, pr, hn, q, qx⟩ := h
    have bl : bx.length = pp.length := S0.len.symm
    have tk0 : Takes (cxOf (L2.CX P w) P w fr mg base N qual (defScope st) f cdv A outer s H E) (fun cls d _ H => E cls d H) := takes_of rfl rfl rfl rfl
    have tk := tk0.imp (W' := liftX ⟨fr, ⟨B, O, pp, cl⟩⟩ fun n g => u (g0 N.length rs bx) = .ex n g) fun c d σ H' ⟨F', g', tm', B', al', n, S', hg, hxn⟩ => by
      have S2 := S'.root
      obtain ⟨ce', e1, e2⟩ := split_ce S2
      have e1 : g'.ce = g'.ce.take pp.length ++ ce' := e1
      have e2 : (g'.ce.take pp.length).length = pp.length := e2
      refine qx n c d H' (g'.ce.take pp.length) B' al' ce' ?_ e2 ?_ hxn
      · unfold mkFn
        rw [hg, bl]
      · rw [← e1]; exact S2
    have hd := body cdv A outer s H E ⟨B, O, pp, cl⟩ _ rfl hr tk
    refine ⟨_, hd, ⟨B, O, pp⟩, g0 N.length rs bx, [], { nx := fun g => u (g0 N.length rs bx) = .ok .nx g, rt := fun r g => u (g0 N.length rs bx) = .ok (.rt r) g }, B, pp, stt_start S0 pr, ?_, ?_⟩
    · unfold rS
      cases hu : u (g0 N.length rs bx) with
      | no => unfold mkFn at hn; rw [hu] at hn; exact absurd rfl hn
      | ex n g => exact rfl
      | ok fl g =>
        cases fl with
        | nx => exact rfl
        | rt r => exact rfl
        | bk => unfold mkFn at hn; rw [hu] at hn; exact absurd rfl hn
        | ct => unfold mkFn at hn; rw [hu] at hn; exact absurd rfl hn
    · refine ⟨fun s' H' g' B' al' h' S' => ?_, fun s' v H' r g' B' al' h' S' => ?_, fun s' H' g' B' al' h' S' => h'.elim, fun s' H' g' B' al' h' S' => h'.elim, rfl⟩
      · have S2 := S'.bare
        obtain ⟨ce', e1, e2⟩ := split_ce S2
        have e1 : g'.ce = g'.ce.take pp.length ++ ce' := e1
        have e2 : (g'.ce.take pp.length).length = pp.length := e2
        refine q .non H' (.dat .none) (g'.ce.take pp.length) B' al' ce' ?_ e2 (by rw [← e1]; exact S2) Dq.non
        unfold mkFn
        rw [h', bl]
        rfl
      · have hv := S'.top rfl
        have S2 := S'.bare
        obtain ⟨ce', e1, e2⟩ := split_ce S2
        have e1 : g'.ce = g'.ce.take pp.length ++ ce' := e1
        have e2 : (g'.ce.take pp.length).length = pp.length := e2
        have ef : mkFn N.length u rs bx = finF bx.length r g' := by unfold mkFn; rw [h']
        rw [ef] at hn
        cases r with
        | d y => exact q v H' (.dat y) (g'.ce.take pp.length) B' al' ce' (by rw [ef, bl]; rfl) e2 (by rw [← e1]; exact S2) hv
        | s ns => exact absurd rfl hn
        | x n => exact absurd rfl hn
        | l js => exact absurd rfl hn
        | f j ds => exact absurd rfl hn
        | m ct =>
          obtain ⟨a, z1, z2, z3⟩ := hv
          exact q v H' (.shC ct) (g'.ce.take pp.length) B' al' ce' (by rw [ef, bl]; rfl) e2 (by rw [← e1]; exact S2) ⟨a, z1, z2, _, _, z3⟩
        | o j =>
          obtain ⟨p, z1, z2⟩ := hv
          unfold finF at hn ef
          by_cases hj : bx.length ≤ j
          · simp only [if_pos hj] at hn ef
            cases hc : g'.ce[j]? with
            | none => simp only [hc] at hn; exact absurd rfl hn
            | some ct =>
              simp only [hc] at hn ef
              have hnd : ct ≠ .dead := fun z => by subst z; exact absurd rfl hn
              refine q v H' (.newC ct) (g'.ce.take pp.length) B' al' ce' ?_ e2 (by rw [← e1]; exact S2) ⟨j, p, by omega, z1, z2, by rw [← e1]; exact hc, hnd⟩
              rw [ef, bl]
              cases ct with
              | dead => exact absurd rfl hnd
              | lst _ => rfl
              | dK _ => rfl
              | dT _ => rfl
              | dN _ => rfl
              | dL _ => rfl
              | dF _ => rfl
          · simp only [if_neg hj] at hn
            exact absurd rfl hn
end
section
variable {ρ : Root} {X : Cx} {dx : DX} {k : Nat} {f : Addr} {fd : FuncData} {ps : List Str} {x : Str} {p pos : Pos} {e : Expr} {es : List Expr} {K : KR} {fn : Fn} {fs : FAr} {own : Bool}
theorem ref_callF {n : Nat} : ∀ s H Q, lift K (fun g k => rd dx fs g fun rs g1 => rs.length = n ∧ (callF fn own rs g1).go dx k) s H Q → tCallS (spF K.fr K.rt.cl n fn) (WE (liftX K dx)) (liftA K (rd dx fs)) s H Q := fun s H Q ⟨F, g, tm, kk, B, al, S, hk, q⟩ =>
  ⟨F, g, tm, _, B, al, S, hk, fun vs H1 rs g1 B1 al1 ⟨hlen, hc⟩ S1 pr => by
    show spF K.fr K.rt.cl n fn vs H1 Q _
    unfold callF at hc
    split at hc
    · rename_i hb
      obtain ⟨pp, bb⟩ := bxs_mk S1.len hb.1 hb.2.1
      refine ⟨B1, ownP F H1 B1 al1 pp, pp, _, rs.map (renR (boxes rs)), by rw [pr.length]; exact hlen, callP_in S1 bb, paired_ren bb pr hb.2.2 (fun j h => h), ?_, ?_, ?_⟩
      · intro z
        rw [z] at hc
        exact hc
      · intro v H' qq bx' B' al' ce' ef hl S' hr
        rw [ef] at hc
        have S2 := callP_out S1 bb hl S'
        cases qq with
        | dat y => exact q v H' (.d y) _ B' al1 hc (S2.push hr)
        | shC ct =>
          obtain ⟨a, e1, e2, _, _, e3⟩ := hr
          exact q v H' (.m ct) _ B' al1 hc (S2.push ⟨a, e1, e2, ct_any e3⟩)
        | newC ct =>
          obtain ⟨j, p, hj, e1, e2, e3, e4⟩ := hr
          subst e2
          obtain ⟨a1, a2, a3, a4, a5⟩ := callP_new S1 bb S' hj e1 e3 e4
          cases own with
          | false =>
            obtain ⟨B3, S3⟩ := S2.take a1 a2 a3 a4 a5 e4
            exact q _ H' _ _ B3 al1 hc S3
          | true =>
            have z := S2.own_at (p := p)
            exact q _ H' _ _ B' (al1 ++ [p]) hc ((S2.adoptO a1 a2 a3 a4 a5).push ⟨p, z, rfl⟩)
      · intro n cls d H' bx' B' al' ce' ef hl S' hx
        rw [ef] at hc
        exact ⟨F, _, tm, B', al1, n, callP_out S1 bb hl S', hc, hx⟩
    · exact hc.elim⟩
/-- arguments in number -/
def nArgs (n : Nat) (f : FAr) : Prop := ∀ g rs g', f g = .ok rs g' → rs.length = n
theorem nArgs_nil : nArgs 0 fNil := fun g rs g' h => by cases h; rfl
theorem nArgs_cons {n : Nat} {f : FE} {fs : FAr} (h : nArgs n fs) : nArgs (n + 1) (fCons f fs) := fun g rs g' e => by
  unfold fCons at e
  cases h1 : f g with
  | no => rw [h1] at e; cases e
  | ex n g => rw [h1] at e; cases e
  | ok r g1 =>
    rw [h1] at e
    simp only [bind_ok] at e
    cases h2 : fs g1 with
    | no => rw [h2] at e; cases e
    | ex n g => rw [h2] at e; cases e
    | ok rs g2 =>
      rw [h2] at e
      cases e
      rw [List.length_cons, h g1 rs _ h2]
theorem q_call (own : Bool) (tk : Takes X (liftX ⟨X.K, ρ⟩ dx)) (G : FnG X.prog X.w X.K X.mg X.base (L2.CX X.prog X.w) k f fd ps (spF X.K ρ.cl ps.length fn)) (hr : Calm k X.A) (hg : Gl X x) (hm : X.mg x = some (.ref f)) (hk : PySem.W.keepIn X.K (.ref f) = true) (hb : Binds X.K fd ps []) (ha : PFA ρ X dx (e :: es) fs) (hn : nArgs ps.length fs) (hdb : (x == ("__debug__" : Str)) = false := by decide)
    (he : starEach (e :: es) X.env = (false, eval e X.env) :: starEach es X.env := by rfl) (hpl : (backTo pos (starEach es X.env)).any (·.1) = false := by rfl) : PF ρ X dx (.Call (.Name x p) (e :: es) [] pos) (fCall fn own fs) :=
  pe_imp (pe_callG G hr hg hm hk hb (passAt tk) ha hdb he hpl) fun s H Q ⟨F, g, tm, kk, B, al, S, hk, q⟩ => ref_callF (own := own) s H Q ⟨F, g, tm, kk, B, al, S, (by
    unfold rd fCall at hk
    show (fs g).go dx _
    cases h1 : fs g with
    | no => rw [h1] at hk; exact hk
    | ex n g => rw [h1] at hk; exact hk
    | ok rs g1 => rw [h1] at hk; exact ⟨hn g rs g1 h1, hk⟩), q⟩
end
end DL
set_option Elab.async false
set_option linter.all false
set_option maxRecDepth 100000
set_option maxHeartbeats 4000000
set_option autoImplicit false
namespace DL
open PySem PySem.Spec PyProof.Rows L2
@[simp] theorem onI_ap (f : Int → Int → Option PyData) (u0 : G) (r1 : R) (r2 : R) : onI f u0 r1 r2 = (match r1, r2 with
  | .d (.int i), .d (.int j) => (f i j).map .d
  | _, _ => none) := id rfl
@[simp] theorem opMul_ap (g : G) (r1 : R) (r2 : R) : opMul g r1 r2 = (match r1, r2 with
  | .d (.int i), .d (.int j) => if mulOk i j then some (.d (.int (i * j))) else none
  | _, _ => none) := id rfl
@[simp] theorem opAdd_ap (g : G) (r1 : R) (r2 : R) : opAdd g r1 r2 = (match r1, r2 with
  | .d (.int i), .d (.int j) => some (.d (.int (i + j)))
  | .d (.tuple xs), .d (.tuple ys) => if xs.length + ys.length ≤ 100000 then some (.d (.tuple (xs ++ ys))) else none
  | r1, r2 => (cat2 g r1 r2).map fun l => .d (.list l)) := id rfl
@[simp] theorem opEq_ap (g : G) (r1 : R) (r2 : R) : opEq g r1 r2 = (match datOf g r1, datOf g r2 with
  | some x, some y => if SeqAt.shaped x && SeqAt.shaped y then some (.d (.bool (PyData.eqv x y))) else none
  | _, _ => none) := id rfl
@[simp] theorem opNe_ap (g : G) (r1 : R) (r2 : R) : opNe g r1 r2 = (match datOf g r1, datOf g r2 with
  | some x, some y => if SeqAt.shaped x && SeqAt.shaped y then some (.d (.bool (!PyData.eqv x y))) else none
  | _, _ => none) := id rfl
@[simp] theorem opIsN_ap (u0 : G) (r1 : R) (r2 : R) : opIsN u0 r1 r2 = (match r2 with
  | .d .none => some (.d (.bool (isNR r1)))
  | _ => none) := id rfl
@[simp] theorem opNotN_ap (u0 : G) (r1 : R) (r2 : R) : opNotN u0 r1 r2 = (match r2 with
  | .d .none => some (.d (.bool (!isNR r1)))
  | _ => none) := id rfl
@[simp] theorem opIx_ap (g : G) (r1 : R) (r2 : R) : opIx g r1 r2 = (match r2 with
  | .d key => match dictAt g r1 with
    | some ct => match dGet ct key with
      | some (some x) => some (.d x)
      | _ => none
    | none => match key with
      | .int i => match seqOf g r1 with
        | some (_, ds) => (atI ds i).map .d
        | none => none
      | _ => none
  | _ => none) := id rfl
@[simp] theorem opIn_ap (g : G) (r1 : R) (r2 : R) : opIn g r1 r2 = ((inB g r1 r2).map fun b => .d (.bool b)) := id rfl
@[simp] theorem opNotIn_ap (g : G) (r1 : R) (r2 : R) : opNotIn g r1 r2 = ((inB g r1 r2).map fun b => .d (.bool (!b))) := id rfl
@[simp] theorem fVar_ap (i : Nat) (g : G) : fVar i g = (match g.sl[i]? with
  | some (some r) => .ok r g
  | _ => .no) := id rfl
@[simp] theorem fC_ap (x : PyData) (g : G) : fC x g = (.ok (.d x) g) := id rfl
@[simp] theorem fOp_ap (op : Op2) (f1 f2 : FE) (g : G) : fOp op f1 f2 g = ((f1 g).bind fun r1 g1 => (f2 g1).bind fun r2 g2 => ofO (op g2 r1 r2) g2) := id rfl
@[simp] theorem fNeg_ap (f : FE) (g : G) : fNeg f g = ((f g).bind fun r g1 => match r with
  | .d (.int i) => .ok (.d (.int (-i))) g1
  | _ => .no) := id rfl
@[simp] theorem fAnd_ap (f1 f2 : FE) (g : G) : fAnd f1 f2 g = ((f1 g).bind fun r g1 => match r with
  | .d (.bool c) => if c = true then f2 g1 else .ok (.d (.bool false)) g1
  | _ => .no) := id rfl
@[simp] theorem fOr_ap (f1 f2 : FE) (g : G) : fOr f1 f2 g = ((f1 g).bind fun r g1 => match r with
  | .d (.bool c) => if c = true then .ok (.d (.bool true)) g1 else f2 g1
  | _ => .no) := id rfl
@[simp] theorem fNot_ap (f : FE) (g : G) : fNot f g = ((f g).bind fun r g1 => match r with
  | .d (.bool c) => .ok (.d (.bool (!c))) g1
  | _ => .no) := id rfl
@[simp] theorem fTst_ap (f : FE) (g : G) : fTst f g = ((f g).bind fun r g1 => match r with
  | .d (.bool c) => .ok c g1
  | _ => .no) := id rfl
@[simp] theorem fAndT_ap (t u : FT) (g : G) : fAndT t u g = ((t g).bind fun c g1 => if c = true then u g1 else .ok false g1) := id rfl
@[simp] theorem fOrT_ap (t u : FT) (g : G) : fOrT t u g = ((t g).bind fun c g1 => if c = true then .ok true g1 else u g1) := id rfl
@[simp] theorem fNotT_ap (t : FT) (g : G) : fNotT t g = ((t g).bind fun c g1 => .ok (!c) g1) := id rfl
@[simp] theorem fYes_ap (g : G) : fYes g = (.ok true g) := id rfl
@[simp] theorem fIf_ap (t : FT) (a b : FE) (g : G) : fIf t a b g = ((t g).bind fun c g1 => if c = true then a g1 else b g1) := id rfl
@[simp] theorem fChain_ap (o1 o2 : Op2) (fa fb fc : FE) (g : G) : fChain o1 o2 fa fb fc g = ((fa g).bind fun r1 g1 => (fb g1).bind fun r2 g2 => match o1 g2 r1 r2 with
  | some (.d (.bool c)) => if c = true then (fc g2).bind fun r4 g4 => ofO (o2 g4 r2 r4) g4 else .ok (.d (.bool false)) g2
  | _ => .no) := id rfl
@[simp] theorem fNil_ap (g : G) : fNil g = (.ok [] g) := id rfl
@[simp] theorem fCons_ap (f : FE) (fs : FAr) (g : G) : fCons f fs g = ((f g).bind fun r g1 => (fs g1).bind fun rs g2 => .ok (r :: rs) g2) := id rfl
@[simp] theorem fTup_ap (fs : FAr) (g : G) : fTup fs g = ((fs g).bind fun rs g1 => match asData rs with
  | some ds => if ds.length ≤ 100000 then .ok (.d (.tuple ds)) g1 else .no
  | none => .no) := id rfl
@[simp] theorem fLst_ap (fs : FAr) (g : G) : fLst fs g = ((fs g).bind fun rs g1 => match asData rs with
  | some ds => if ds.length ≤ 100000 then .ok (.d (.list ds)) g1 else .no
  | none => .no) := id rfl
@[simp] theorem fLstO_ap (fs : FAr) (g : G) : fLstO fs g = ((fs g).bind fun rs g1 => match asData rs with
  | some ds => if ds.length ≤ 100000 then newO (.lst ds) g1 else .no
  | none => .no) := id rfl
@[simp] theorem fDict0_ap (g : G) : fDict0 g = (newO (.dK []) g) := id rfl
@[simp] theorem fDict0T_ap (g : G) : fDict0T g = (newO (.dT []) g) := id rfl
@[simp] theorem fNoP_ap (g : G) : fNoP g = (.ok none g) := id rfl
@[simp] theorem fPart_ap (f : FE) (g : G) : fPart f g = ((f g).bind fun r g1 => match r with
  | .d (.int i) => .ok (some i) g1
  | _ => .no) := id rfl
@[simp] theorem fSl_ap (f : FE) (fl fh : FO) (g : G) : fSl f fl fh g = ((f g).bind fun r g1 => (fl g1).bind fun lo g2 => (fh g2).bind fun hi g3 => match seqOf g3 r with
  | some (t, ds) => .ok (.d (if t then .tuple (cut ds lo hi) else .list (cut ds lo hi))) g3
  | none => .no) := id rfl
@[simp] theorem fRev_ap (f : FE) (g : G) : fRev f g = ((f g).bind fun r g1 => match seqOf g1 r with
  | some (t, ds) => .ok (.d (if t then .tuple ds.reverse else .list ds.reverse)) g1
  | none => .no) := id rfl
@[simp] theorem fCl_ap (c : Cl) (fs : FAr) (g : G) : fCl c fs g = ((fs g).bind fun rs g1 => ofO (c g1 rs) g1) := id rfl
@[simp] theorem clLen_ap (g : G) (rs : List R) : clLen g rs = (match rs with
  | [r] => match seqOf g r with
    | some (_, ds) => some (.d (.int ds.length))
    | none => none
  | _ => none) := id rfl
@[simp] theorem clAbs_ap (u0 : G) (rs : List R) : clAbs u0 rs = (match rs with
  | [.d (.int i)] => some (.d (.int (if i < 0 then -i else i)))
  | _ => none) := id rfl
@[simp] theorem clMax_ap (u0 : G) (rs : List R) : clMax u0 rs = (match rs with
  | [.d (.int i), .d (.int j)] => some (.d (.int (if j > i then j else i)))
  | _ => none) := id rfl
@[simp] theorem clMin_ap (u0 : G) (rs : List R) : clMin u0 rs = (match rs with
  | [.d (.int i), .d (.int j)] => some (.d (.int (if j < i then j else i)))
  | _ => none) := id rfl
@[simp] theorem clInt_ap (u0 : G) (rs : List R) : clInt u0 rs = (match rs with
  | [.d (.bool b)] => some (.d (.int (if b then 1 else 0)))
  | _ => none) := id rfl
@[simp] theorem clList_ap (g : G) (rs : List R) : clList g rs = (match rs with
  | [r] => match seqOf g r with
    | some (_, ds) => some (.d (.list ds))
    | none => none
  | _ => none) := id rfl
@[simp] theorem clTuple_ap (g : G) (rs : List R) : clTuple g rs = (match rs with
  | [r] => match seqOf g r with
    | some (_, ds) => some (.d (.tuple ds))
    | none => none
  | _ => none) := id rfl
@[simp] theorem clAll_ap (g : G) (rs : List R) : clAll g rs = (match rs with
  | [r] => match seqOf g r with
    | some (false, ds) => (asBools ds).map fun bs => .d (.bool (bs.all id))
    | _ => none
  | _ => none) := id rfl
@[simp] theorem clAny_ap (g : G) (rs : List R) : clAny g rs = (match rs with
  | [r] => match seqOf g r with
    | some (false, ds) => (asBools ds).map fun bs => .d (.bool (bs.any id))
    | _ => none
  | _ => none) := id rfl
@[simp] theorem clSum_ap (g : G) (rs : List R) : clSum g rs = (match rs with
  | [r] => match seqOf g r with
    | some (false, ds) => (asInts ds).map fun bs => .d (.int bs.sum)
    | _ => none
  | _ => none) := id rfl
@[simp] theorem clSorted_ap (g : G) (rs : List R) : clSorted g rs = (match rs with
  | [r] => match dictAt g r with
    | some (.dK kvs) => match asKeys kvs with
      | some ks => if ks.length < 64 then some (.d (.list ((srt ks).map .int))) else none
      | none => none
    | some _ => none
    | none => match seqOf g r with
      | some (_, ds) => (asInts ds).map fun ns => .d (.list ((srt ns).map .int))
      | none => none
  | _ => none) := id rfl
@[simp] theorem fListO_ap (fs : FAr) (g : G) : fListO fs g = ((fs g).bind fun rs g1 => match rs with
  | [r] => match seqOf g1 r with
    | some (_, ds) => newO (.lst ds) g1
    | none => .no
  | _ => .no) := id rfl
@[simp] theorem fIsi_ap (T : String) (f : FE) (g : G) : fIsi T f g = ((f g).bind fun r g1 => match tyOf g1 r with
  | some t => .ok (.d (.bool (isaB t T))) g1
  | none => .no) := id rfl
@[simp] theorem fIsi2_ap (T U : String) (f : FE) (g : G) : fIsi2 T U f g = ((f g).bind fun r g1 => match tyOf g1 r with
  | some t => .ok (.d (.bool (isaB t T || isaB t U))) g1
  | none => .no) := id rfl
@[simp] theorem fMt_ap (m : Mt) (f : FE) (fs : FAr) (g : G) : fMt m f fs g = ((f g).bind fun r g1 => if isLst g1 r then (fs g1).bind fun rs g2 => ofM (m g2 r rs) else .no) := id rfl
@[simp] theorem mtAppend_ap (g : G) (r : R) (rs : List R) : mtAppend g r rs = (match rs with
  | [.d x] => onL (fun ds => if ds.length < 100000 then some (.d .none, ds ++ [x]) else none) g r
  | _ => none) := id rfl
@[simp] theorem mtInsert_ap (g : G) (r : R) (rs : List R) : mtInsert g r rs = (match rs with
  | [.d (.int i), .d x] => onL (fun ds => if ds.length < 100000 ∧ 0 ≤ i ∧ i < 2 ^ 63 then some (.d .none, ds.take i.toNat ++ [x] ++ ds.drop i.toNat) else none) g r
  | _ => none) := id rfl
@[simp] theorem mtPop_ap (g : G) (r : R) (rs : List R) : mtPop g r rs = (match rs with
  | [.d (.int i)] => onL (popL i) g r
  | _ => none) := id rfl
@[simp] theorem mtExtend_ap (g : G) (r : R) (rs : List R) : mtExtend g r rs = (match rs with
  | [r1] => match seqOf g r1 with
    | some (false, es) => if isMade r1 then onL (fun ds => if ds.length + es.length ≤ 100000 then some (.d .none, ds ++ es) else none) g r else none
    | _ => none
  | _ => none) := id rfl
@[simp] theorem mtIndex_ap (g : G) (r : R) (rs : List R) : mtIndex g r rs = (match rs with
  | [r1] => match datOf g r, datOf g r1 with
    | some (.list ds), some d => if SeqAt.shaped (.list ds) && SeqAt.shaped d then (ds.findIdx? (fun z => PyData.eqv z d)).map fun n => (.d (.int (n : Nat)), g) else none
    | _, _ => none
  | _ => none) := id rfl
@[simp] theorem tN_ap (i : Nat) (r : R) (g : G) : tN i r g = (.ok () { g with sl := g.sl.set i (some r) }) := id rfl
@[simp] theorem tNil_ap (rs : List R) (g : G) : tNil rs g = (match rs with
  | [] => .ok () g
  | _ => .no) := id rfl
@[simp] theorem tCons_ap (t : FG) (u : FGs) (rs : List R) (g : G) : tCons t u rs g = (match rs with
  | r :: rs => (t r g).bind fun _ g1 => u rs g1
  | [] => .no) := id rfl
@[simp] theorem tTup_ap (n : Nat) (t : FGs) (r : R) (g : G) : tTup n t r g = (match r with
  | .d (.tuple ds) => if ds.length = n then t (ds.map .d) g else .no
  | _ => .no) := id rfl
@[simp] theorem tSub_ap (fo fi : FE) (r : R) (g : G) : tSub fo fi r g = ((fo g).bind fun r1 g1 => (fi g1).bind fun r2 g2 => match r, r2 with
  | .d x, .d (.int i) => match onL (fun ds => (ixN ds.length i).map fun n => (.d .none, ds.set n x)) g2 r1 with
    | some (_, g3) => .ok () g3
    | none => .no
  | _, _ => .no) := id rfl
@[simp] theorem sNx_ap (g : G) : sNx g = (.ok .nx g) := id rfl
@[simp] theorem sCt_ap (g : G) : sCt g = (.ok .ct g) := id rfl
@[simp] theorem sBk_ap (g : G) : sBk g = (.ok .bk g) := id rfl
@[simp] theorem sSq_ap (a b : FS) (g : G) : sSq a b g = ((a g).bind fun f g1 => match f with
  | .nx => b g1
  | f => .ok f g1) := id rfl
@[simp] theorem sEx_ap (f : FE) (g : G) : sEx f g = ((f g).bind fun _ g1 => .ok .nx g1) := id rfl
@[simp] theorem sRt_ap (f : FE) (g : G) : sRt f g = ((f g).bind fun r g1 => .ok (.rt r) g1) := id rfl
@[simp] theorem sRtN_ap (g : G) : sRtN g = (.ok (.rt (.d .none)) g) := id rfl
@[simp] theorem sIte_ap (t : FT) (a b : FS) (g : G) : sIte t a b g = ((t g).bind fun c g1 => if c = true then a g1 else b g1) := id rfl
@[simp] theorem sSet_ap (f : FE) (t : FG) (g : G) : sSet f t g = ((f g).bind fun r g1 => (t r g1).bind fun _ g2 => .ok .nx g2) := id rfl
@[simp] theorem sP2_ap (i j : Nat) (fs : FAr) (g : G) : sP2 i j fs g = ((fs g).bind fun rs g1 => match rs with
  | [r1, r2] => .ok .nx { g1 with sl := (g1.sl.set i (some r1)).set j (some r2) }
  | _ => .no) := id rfl
@[simp] theorem sP3_ap (i j l : Nat) (fs : FAr) (g : G) : sP3 i j l fs g = ((fs g).bind fun rs g1 => match rs with
  | [r1, r2, r3] => .ok .nx { g1 with sl := ((g1.sl.set i (some r1)).set j (some r2)).set l (some r3) }
  | _ => .no) := id rfl
@[simp] theorem sAg_ap (i : Nat) (o : Int → Int → Option Int) (f : FE) (g : G) : sAg i o f g = (match g.sl[i]? with
  | some (some (.d (.int n))) => (f g).bind fun r g1 => match r with
    | .d (.int m) => match o n m with
      | some q => .ok .nx { g1 with sl := g1.sl.set i (some (.d (.int q))) }
      | none => .no
    | _ => .no
  | _ => .no) := id rfl
@[simp] theorem sPut_ap (fd fi fv : FE) (g : G) : sPut fd fi fv g = ((fv g).bind fun rv g1 => (fd g1).bind fun rd g2 => (fi g2).bind fun ri g3 => match rv, rd, ri with
  | .d x, .o j, .d key => match g3.ce[j]? with
    | some ct => match dPut ct key x with
      | some ct' => .ok .nx (putC g3 j ct')
      | none => .no
    | none => .no
  | _, _, _ => .no) := id rfl
@[simp] theorem sNo_ap (u0 : G) : sNo u0 = (.no) := id rfl
@[simp] theorem whSt_ap (t : FT) (u w : FS) (g : G) : whSt t u w g = ((t g).bind fun c g1 => if c = true then (u g1).bind fun f g2 => match f with
  | .nx => w g2
  | .ct => w g2
  | .bk => .ok .nx g2
  | .rt r => .ok (.rt r) g2 else .ok .nx g1) := id rfl
@[simp] theorem sFr_ap (i : FI) (t : FG) (u : FS) (g : G) : sFr i t u g = ((i g).bind fun ds g1 => forGo t u ds g1) := id rfl
@[simp] theorem fLc_ap (i : FI) (t : FG) (c : FT) (f : FE) (ws : List Nat) (g : G) : fLc i t c f ws g = ((i g).bind fun ds g1 => (lcGo t c f g1.sl ws ds [] g1.ce).bind fun acc g2 => .ok (.d (.list acc)) g2) := id rfl
@[simp] theorem fLcO_ap (i : FI) (t : FG) (c : FT) (f : FE) (ws : List Nat) (g : G) : fLcO i t c f ws g = ((i g).bind fun ds g1 => (lcGo t c f g1.sl ws ds [] g1.ce).bind fun acc g2 => newO (.lst acc) g2) := id rfl
@[simp] theorem iSeq_ap (f : FE) (g : G) : iSeq f g = ((f g).bind fun r g1 => if noO r then match seqOf g1 r with
  | some (_, ds) => .ok ds g1
  | none => .no else .no) := id rfl
@[simp] theorem iRg1_ap (fs : FAr) (g : G) : iRg1 fs g = ((fs g).bind fun rs g1 => match rs with
  | [.d (.int j)] => if rOk j then .ok (rng 0 j.toNat) g1 else .no
  | _ => .no) := id rfl
@[simp] theorem iRg2_ap (fs : FAr) (g : G) : iRg2 fs g = ((fs g).bind fun rs g1 => match rs with
  | [.d (.int i), .d (.int j)] => if rOk i && rOk j then .ok (rng i (j - i).toNat) g1 else .no
  | _ => .no) := id rfl
@[simp] theorem iEn_ap (fs : FAr) (g : G) : iEn fs g = ((fs g).bind fun rs g1 => match rs with
  | [r] => if noO r then match seqOf g1 r with
    | some (_, ds) => .ok (enumD ds) g1
    | none => .no else .no
  | _ => .no) := id rfl
@[simp] theorem iZ2_ap (fs : FAr) (g : G) : iZ2 fs g = ((fs g).bind fun rs g1 => match rs with
  | [.d x, .d y] => match seqD x, seqD y with
    | some xs, some ys => if ys.length = xs.length then .ok (zip2 xs ys) g1 else .no
    | _, _ => .no
  | _ => .no) := id rfl
@[simp] theorem iZ3_ap (fs : FAr) (g : G) : iZ3 fs g = ((fs g).bind fun rs g1 => match rs with
  | [.d x, .d y, .d z] => match seqD x, seqD y, seqD z with
    | some xs, some ys, some zs => if ys.length = xs.length ∧ zs.length = xs.length then .ok (zip3 xs ys zs) g1 else .no
    | _, _, _ => .no
  | _ => .no) := id rfl
@[simp] theorem clLz2_ap (g : G) (rs : List R) : clLz2 g rs = (match rs with
  | [r1, r2] => match seqOf g r1, seqOf g r2 with
    | some (_, xs), some (_, ys) => if ys.length = xs.length then some (.d (.list (zip2 xs ys))) else none
    | _, _ => none
  | _ => none) := id rfl
@[simp] theorem clLz3_ap (g : G) (rs : List R) : clLz3 g rs = (match rs with
  | [r1, r2, r3] => match seqOf g r1, seqOf g r2, seqOf g r3 with
    | some (_, xs), some (_, ys), some (_, zs) => if ys.length = xs.length ∧ zs.length = xs.length then some (.d (.list (zip3 xs ys zs))) else none
    | _, _, _ => none
  | _ => none) := id rfl
@[simp] theorem fCall_ap (f : Fn) (own : Bool) (fs : FAr) (g : G) : fCall f own fs g = ((fs g).bind fun rs g1 => callF f own rs g1) := id rfl
@[simp] theorem mkFn_ap (n : Nat) (f : FS) (rs : List R) (bx : List Ct) : mkFn n f rs bx = (match f (g0 n rs bx) with
  | .ok .nx g => finF bx.length (.d .none) g
  | .ok (.rt r) g => finF bx.length r g
  | .ex n g => .ex n (g.ce.take bx.length)
  | _ => .no) := id rfl
end DL
set_option Elab.async false
set_option linter.all false
set_option maxRecDepth 100000
set_option maxHeartbeats 4000000
set_option autoImplicit false
namespace DL
open PySem PySem.Spec PyProof.Rows L2
abbrev zD (ns : List Int) : List PyData := ns.map PyData.int
def pD (p : Int × Int) : PyData := .tuple [.int p.1, .int p.2]
abbrev psD (ps : List (Int × Int)) : List PyData := ps.map pD
def Sq (x : PyData) (ds : List PyData) : Prop := x = .list ds ∨ x = .tuple ds
theorem Sq.seq {x : PyData} {ds : List PyData} (h : Sq x ds) (g : G) : ∃ t, seqOf g (.d x) = some (t, ds) := by
  rcases h with rfl | rfl
  · exact ⟨false, rfl⟩
  · exact ⟨true, rfl⟩
theorem sqL {ds : List PyData} : Sq (.list ds) ds := .inl rfl
theorem sqT {ds : List PyData} : Sq (.tuple ds) ds := .inr rfl
/-- no bool, no text, no dict; depth below n -/
def plain : Nat → PyData → Bool
  | _, .none => true
  | _, .int _ => true
  | n + 1, .list ds => ds.all (plain n)
  | n + 1, .tuple ds => ds.all (plain n)
  | _, _ => false
theorem plain_lay : ∀ (n : Nat) (d : PyData), plain n d = true → d.canLay0 = true ∧ d.depth ≤ n + 1
  | _, .none, _ => ⟨rfl, by simp [PyData.depth]⟩
  | _, .int _, _ => ⟨rfl, by simp [PyData.depth]⟩
  | n + 1, .list ds, h => by
    have h : ds.all (plain n) = true := h
    have all : PyData.canLayAll0 ds = true ∧ PyData.depthAll ds ≤ n + 1 := by
      induction ds with
      | nil => exact ⟨rfl, by simp [PyData.depthAll]⟩
      | cons x xs ih =>
        rw [List.all_cons, Bool.and_eq_true] at h
        obtain ⟨a, b⟩ := ih h.2 h.2
        obtain ⟨c, d⟩ := plain_lay n x h.1
        exact ⟨by rw [PyData.canLayAll0, c, a]; rfl, by simp only [PyData.depthAll]; omega⟩
    exact ⟨all.1, by simp only [PyData.depth]; omega⟩
  | n + 1, .tuple ds, h => by
    have h : ds.all (plain n) = true := h
    have all : PyData.canLayAll0 ds = true ∧ PyData.depthAll ds ≤ n + 1 := by
      induction ds with
      | nil => exact ⟨rfl, by simp [PyData.depthAll]⟩
      | cons x xs ih =>
        rw [List.all_cons, Bool.and_eq_true] at h
        obtain ⟨a, b⟩ := ih h.2 h.2
        obtain ⟨c, d⟩ := plain_lay n x h.1
        exact ⟨by rw [PyData.canLayAll0, c, a]; rfl, by simp only [PyData.depthAll]; omega⟩
    exact ⟨all.1, by simp only [PyData.depth]; omega⟩
  | 0, .list _, h => by cases h
  | 0, .tuple _, h => by cases h
  | 0, .bool _, h => by cases h
  | _ + 1, .bool _, h => by cases h
  | 0, .str _, h => by cases h
  | _ + 1, .str _, h => by cases h
  | 0, .dict _, h => by cases h
  | _ + 1, .dict _, h => by cases h
theorem plain_shaped {n : Nat} {d : PyData} (h : plain n d = true) (hn : n < 60) : SeqAt.shaped d = true := by
  obtain ⟨a, b⟩ := plain_lay n d h
  unfold SeqAt.shaped
  rw [a, decide_eq_true (show d.depth ≤ 64 by omega)]
  rfl
mutual
theorem eqv_refl : ∀ (d : PyData), d.canLay0 = true → PyData.eqv d d = true
  | .none, _ => by simp [PyData.eqv]
  | .bool b, _ => by simp [PyData.eqv]
  | .int i, _ => by simp [PyData.eqv]
  | .str s, _ => by simp [PyData.eqv]
  | .list ds, h => by rw [PyData.eqv]; exact eqvAll_refl ds h
  | .tuple ds, h => by rw [PyData.eqv]; exact eqvAll_refl ds h
  | .dict _, h => by cases h
theorem eqvAll_refl : ∀ (ds : List PyData), PyData.canLayAll0 ds = true → PyData.eqvAll ds ds = true
  | [], _ => by simp [PyData.eqvAll]
  | d :: ds, h => by
    rw [PyData.canLayAll0, Bool.and_eq_true] at h
    rw [PyData.eqvAll, eqv_refl d h.1, eqvAll_refl ds h.2]
    rfl
end
theorem eqv_iff : ∀ (n : Nat) (x y : PyData), plain n x = true → plain n y = true → PyData.eqv x y = true → x = y
  | _, .none, y, _, hy, h => by cases y <;> simp_all [PyData.eqv]
  | n, .int i, y, _, hy, h => by
    cases y with
    | int j => simp [PyData.eqv] at h; rw [h]
    | bool b => cases n <;> simp [plain] at hy
    | _ => simp [PyData.eqv] at h
  | n + 1, .list ds, y, hx, hy, h => by
    cases y with
    | list es =>
      have gen : ∀ (ds es : List PyData), ds.all (plain n) = true → es.all (plain n) = true → PyData.eqvAll ds es = true → ds = es := by
        intro ds
        induction ds with
        | nil => intro es _ _ h; cases es with
          | nil => rfl
          | cons _ _ => simp [PyData.eqvAll] at h
        | cons d ds ih => intro es h1 h2 h; cases es with
          | nil => simp [PyData.eqvAll] at h
          | cons e es =>
            rw [List.all_cons, Bool.and_eq_true] at h1 h2
            rw [PyData.eqvAll, Bool.and_eq_true] at h
            rw [eqv_iff n d e h1.1 h2.1 h.1, ih es h1.2 h2.2 h.2]
      rw [PyData.eqv] at h
      rw [gen ds es hx hy h]
    | _ => simp [PyData.eqv] at h
  | n + 1, .tuple ds, y, hx, hy, h => by
    cases y with
    | tuple es =>
      have gen : ∀ (ds es : List PyData), ds.all (plain n) = true → es.all (plain n) = true → PyData.eqvAll ds es = true → ds = es := by
        intro ds
        induction ds with
        | nil => intro es _ _ h; cases es with
          | nil => rfl
          | cons _ _ => simp [PyData.eqvAll] at h
        | cons d ds ih => intro es h1 h2 h; cases es with
          | nil => simp [PyData.eqvAll] at h
          | cons e es =>
            rw [List.all_cons, Bool.and_eq_true] at h1 h2
            rw [PyData.eqvAll, Bool.and_eq_true] at h
            rw [eqv_iff n d e h1.1 h2.1 h.1, ih es h1.2 h2.2 h.2]
      rw [PyData.eqv] at h
      rw [gen ds es hx hy h]
    | _ => simp [PyData.eqv] at h
  | 0, .list _, _, h, _, _ => by cases h
  | 0, .tuple _, _, h, _, _ => by cases h
  | 0, .bool _, _, h, _, _ => by cases h
  | _ + 1, .bool _, _, h, _, _ => by cases h
  | 0, .str _, _, h, _, _ => by cases h
  | _ + 1, .str _, _, h, _, _ => by cases h
  | 0, .dict _, _, h, _, _ => by cases h
  | _ + 1, .dict _, _, h, _, _ => by cases h
theorem eqv_same {n : Nat} {x y : PyData} (hx : plain n x = true) (hy : plain n y = true) : (PyData.eqv x y = true) ↔ x = y := ⟨eqv_iff n x y hx hy, fun e => by
  subst e
  exact eqv_refl x (plain_lay n x hx).1⟩
theorem plain_ints (ns : List Int) (n : Nat) : (zD ns).all (plain n) = true := by
  rw [List.all_eq_true]
  intro x hx
  obtain ⟨i, _, rfl⟩ := List.mem_map.mp hx
  cases n <;> rfl
theorem plain_pairs (ps : List (Int × Int)) (n : Nat) : (psD ps).all (plain (n + 1)) = true := by
  rw [List.all_eq_true]
  intro x hx
  obtain ⟨i, _, rfl⟩ := List.mem_map.mp hx
  show [PyData.int i.1, PyData.int i.2].all (plain n) = true
  exact plain_ints [i.1, i.2] n
theorem zD_inj {a b : List Int} (h : zD a = zD b) : a = b := by
  induction a generalizing b with
  | nil => cases b with
    | nil => rfl
    | cons _ _ => cases h
  | cons x a ih => cases b with
    | nil => cases h
    | cons y b =>
      have h' : PyData.int x :: zD a = PyData.int y :: zD b := h
      injection h' with h1 h2
      injection h1 with h1
      rw [h1, ih h2]
theorem pD_inj {a b : Int × Int} (h : pD a = pD b) : a = b := by
  obtain ⟨a1, a2⟩ := a
  obtain ⟨b1, b2⟩ := b
  unfold pD at h
  injection h with h
  injection h with h1 h2
  injection h1 with h1
  injection h2 with h2 _
  injection h2 with h2
  simp only at h1 h2
  rw [h1, h2]
theorem psD_inj {a b : List (Int × Int)} (h : psD a = psD b) : a = b := by
  induction a generalizing b with
  | nil => cases b with
    | nil => rfl
    | cons _ _ => cases h
  | cons x a ih => cases b with
    | nil => cases h
    | cons y b =>
      have h' : pD x :: psD a = pD y :: psD b := h
      injection h' with h1 h2
      rw [pD_inj h1, ih h2]
theorem eqv_dec {n : Nat} {x y : PyData} {p : Prop} [Decidable p] (hx : plain n x = true) (hy : plain n y = true) (h : x = y ↔ p) : PyData.eqv x y = decide p := by
  rw [Bool.eq_iff_iff, eqv_same hx hy, h, decide_eq_true_eq]
theorem zT_inj {a b : List Int} : PyData.tuple (zD a) = PyData.tuple (zD b) ↔ a = b := ⟨fun h => zD_inj (by injection h), fun h => by rw [h]⟩
theorem zL_inj {a b : List Int} : PyData.list (zD a) = PyData.list (zD b) ↔ a = b := ⟨fun h => zD_inj (by injection h), fun h => by rw [h]⟩
theorem pT_inj {a b : List (Int × Int)} : PyData.tuple (psD a) = PyData.tuple (psD b) ↔ a = b := ⟨fun h => psD_inj (by injection h), fun h => by rw [h]⟩
theorem pL_inj {a b : List (Int × Int)} : PyData.list (psD a) = PyData.list (psD b) ↔ a = b := ⟨fun h => psD_inj (by injection h), fun h => by rw [h]⟩
theorem pD_iff {a b : Int × Int} : pD a = pD b ↔ a = b := ⟨pD_inj, fun h => by rw [h]⟩
@[simp] theorem eqv_zT {a b : List Int} : PyData.eqv (.tuple (zD a)) (.tuple (zD b)) = decide (a = b) := eqv_dec (n := 1) (plain_ints a 0) (plain_ints b 0) zT_inj
@[simp] theorem eqv_zL {a b : List Int} : PyData.eqv (.list (zD a)) (.list (zD b)) = decide (a = b) := eqv_dec (n := 1) (plain_ints a 0) (plain_ints b 0) zL_inj
@[simp] theorem eqv_pT {a b : List (Int × Int)} : PyData.eqv (.tuple (psD a)) (.tuple (psD b)) = decide (a = b) := eqv_dec (n := 2) (plain_pairs a 0) (plain_pairs b 0) pT_inj
@[simp] theorem eqv_pL {a b : List (Int × Int)} : PyData.eqv (.list (psD a)) (.list (psD b)) = decide (a = b) := eqv_dec (n := 2) (plain_pairs a 0) (plain_pairs b 0) pL_inj
@[simp] theorem eqv_pD {a b : Int × Int} : PyData.eqv (pD a) (pD b) = decide (a = b) := eqv_dec (n := 1) (plain_ints [a.1, a.2] 0) (plain_ints [b.1, b.2] 0) pD_iff
@[simp] theorem eqv_int {a b : Int} : PyData.eqv (.int a) (.int b) = decide (a = b) := eqv_dec (n := 1) (x := .int a) (y := .int b) rfl rfl ⟨fun h => by injection h, fun h => by rw [h]⟩
@[simp] theorem shaped_zT {a : List Int} : SeqAt.shaped (.tuple (zD a)) = true := plain_shaped (n := 1) (plain_ints a 0) (by decide)
@[simp] theorem shaped_zL {a : List Int} : SeqAt.shaped (.list (zD a)) = true := plain_shaped (n := 1) (plain_ints a 0) (by decide)
@[simp] theorem shaped_pT {a : List (Int × Int)} : SeqAt.shaped (.tuple (psD a)) = true := plain_shaped (n := 2) (plain_pairs a 0) (by decide)
@[simp] theorem shaped_pL {a : List (Int × Int)} : SeqAt.shaped (.list (psD a)) = true := plain_shaped (n := 2) (plain_pairs a 0) (by decide)
@[simp] theorem shaped_pD {a : Int × Int} : SeqAt.shaped (pD a) = true := plain_shaped (n := 1) (plain_ints [a.1, a.2] 0) (by decide)
@[simp] theorem shaped_int {a : Int} : SeqAt.shaped (.int a) = true := plain_shaped (n := 1) (d := .int a) rfl (by decide)
def lcSt (t : FG) (c : FT) (f : FE) (sl : List (Option R)) (ws : List Nat) (x : PyData) (ce : List Ct) : Option (Option PyData × List Ct) := match t (.d x) ⟨wipeG sl ws, ce⟩ with
  | .ok _ g2 => match c g2 with
    | .ok true g3 => match f g3 with
      | .ok (.d d) g4 => some (some d, g4.ce)
      | _ => none
    | .ok false g3 => some (none, g3.ce)
    | _ => none
  | _ => none
theorem lcGo_cons {t : FG} {c : FT} {f : FE} {sl : List (Option R)} {ws : List Nat} {x : PyData} {ds acc : List PyData} {ce ce' : List Ct} {o : Option PyData} (hl : acc.length < 100000) (h : lcSt t c f sl ws x ce = some (o, ce')) :
    lcGo t c f sl ws (x :: ds) acc ce = lcGo t c f sl ws ds (acc ++ o.toList) ce' := by
  unfold lcSt at h
  rw [lcGo, if_pos hl]
  revert h
  cases t (.d x) ⟨wipeG sl ws, ce⟩ with
  | ok a g2 =>
    dsimp only
    cases c g2 with
    | ok bb g3 =>
      cases bb with
      | true =>
        dsimp only
        cases f g3 with
        | ok r g4 =>
          cases r with
          | d d => intro h; cases h; rfl
          | _ => intro h; cases h
        | _ => intro h; cases h
      | false => intro h; cases h; exact congrArg (fun z => lcGo t c f sl ws ds z _) (List.append_nil _).symm
    | _ => intro h; cases h
  | _ => intro h; cases h
/-- a comprehension that changes no cell -/
theorem lcGo_pure {α : Type} {emb : α → PyData} {t : FG} {c : FT} {f : FE} {sl : List (Option R)} {ws : List Nat} {ce : List Ct} (p : α → Bool) (φ : α → PyData) : ∀ (xs : List α) (acc : List PyData), acc.length + xs.length ≤ 100000 →
    (∀ x ∈ xs, lcSt t c f sl ws (emb x) ce = some (if p x then some (φ x) else none, ce)) → lcGo t c f sl ws (xs.map emb) acc ce = .ok (acc ++ (xs.filter p).map φ) ⟨sl, ce⟩
  | [], acc, _, _ => by rw [List.map_nil, lcGo]; simp
  | x :: xs, acc, hl, h => by
    rw [List.length_cons] at hl
    have hx := h x List.mem_cons_self
    rw [List.map_cons, lcGo_cons (by omega) hx, lcGo_pure p φ xs _ ?_ fun y hy => h y (List.mem_cons_of_mem _ hy)]
    · by_cases q : p x = true
      · rw [List.filter_cons_of_pos q]
        simp [q]
      · rw [List.filter_cons_of_neg q]
        simp [q]
    · rw [List.length_append]
      by_cases q : p x = true
      · simp [q]; omega
      · simp [q]; omega
theorem lcGo_map {α : Type} {emb : α → PyData} {t : FG} {f : FE} {c : FT} {sl : List (Option R)} {ws : List Nat} {ce : List Ct} (φ : α → PyData) {xs : List α} (hl : xs.length ≤ 100000)
    (h : ∀ x ∈ xs, lcSt t c f sl ws (emb x) ce = some (some (φ x), ce)) : lcGo t c f sl ws (xs.map emb) [] ce = .ok (xs.map φ) ⟨sl, ce⟩ := by
  have z := lcGo_pure (emb := emb) (t := t) (c := c) (f := f) (sl := sl) (ws := ws) (ce := ce) (fun _ => true) φ xs [] (by simpa using hl) (fun x hx => by rw [h x hx]; rfl)
  rw [z, List.nil_append, List.filter_eq_self.mpr (fun _ _ => rfl)]
/-- a comprehension with an invariant -/
theorem lcGo_inv {α : Type} {emb : α → PyData} {t : FG} {c : FT} {f : FE} {sl : List (Option R)} {ws : List Nat} (I : Nat → List PyData → List Ct → Prop) {xs : List α} {ce : List Ct} (h0 : I 0 [] ce) (hlen : ∀ i acc ce, I i acc ce → i < xs.length → acc.length < 100000)
    (hs : ∀ i x acc ce, xs[i]? = some x → I i acc ce → ∃ o ce', lcSt t c f sl ws (emb x) ce = some (o, ce') ∧ I (i + 1) (acc ++ o.toList) ce') : ∃ acc ce', lcGo t c f sl ws (xs.map emb) [] ce = .ok acc ⟨sl, ce'⟩ ∧ I xs.length acc ce' := by
  have gen : ∀ (n i : Nat) (acc : List PyData) (ce : List Ct), n + i = xs.length → I i acc ce → ∃ acc' ce', lcGo t c f sl ws ((xs.drop i).map emb) acc ce = .ok acc' ⟨sl, ce'⟩ ∧ I xs.length acc' ce' := by
    intro n
    induction n with
    | zero =>
      intro i acc ce hi hI
      rw [List.drop_of_length_le (by omega), List.map_nil, lcGo]
      exact ⟨acc, ce, rfl, by rw [← hi, Nat.zero_add]; exact hI⟩
    | succ n ih =>
      intro i acc ce hi hI
      have hl : i < xs.length := by omega
      rw [List.drop_eq_getElem_cons hl, List.map_cons]
      obtain ⟨o, ce', h1, h2⟩ := hs i xs[i] acc ce (List.getElem?_eq_getElem hl) hI
      rw [lcGo_cons (hlen i acc ce hI hl) h1]
      exact ih (i + 1) _ ce' (by omega) h2
  exact gen xs.length 0 [] ce (by omega) h0
def forSt (t : FG) (u : FS) (x : PyData) : FS := fun g => (t (.d x) g).bind fun _ g1 => u g1
@[simp] theorem forSt_ap (t : FG) (u : FS) (x : PyData) (g : G) : forSt t u x g = (t (.d x) g).bind fun _ g1 => u g1 := id rfl
theorem forGo_cons {t : FG} {u : FS} {x : PyData} {ds : List PyData} {g : G} : forGo t u (x :: ds) g = (forSt t u x g).bind fun f g2 => match f with
    | .nx => forGo t u ds g2
    | .ct => forGo t u ds g2
    | .bk => .ok .nx g2
    | .rt r => .ok (.rt r) g2 := by
  show ((t (.d x) g).bind fun _ g1 => (u g1).bind _) = ((t (.d x) g).bind fun _ g1 => u g1).bind _
  cases t (.d x) g <;> rfl
@[simp] theorem forGo_nil {t : FG} {u : FS} {g : G} : forGo t u [] g = .ok .nx g := rfl
/-- a loop with an invariant -/
theorem forGo_inv {α : Type} {emb : α → PyData} {t : FG} {u : FS} {xs : List α} {g : G} (I : Nat → G → Prop) (h0 : I 0 g) (hs : ∀ i x g, xs[i]? = some x → I i g → ∃ g2, (forSt t u (emb x) g = .ok .nx g2 ∨ forSt t u (emb x) g = .ok .ct g2) ∧ I (i + 1) g2) : ∃ g', forGo t u (xs.map emb) g = .ok .nx g' ∧ I xs.length g' := by
  have gen : ∀ (n i : Nat) (g : G), n + i = xs.length → I i g → ∃ g', forGo t u ((xs.drop i).map emb) g = .ok .nx g' ∧ I xs.length g' := by
    intro n
    induction n with
    | zero =>
      intro i g hi hI
      rw [List.drop_of_length_le (by omega), List.map_nil, forGo_nil]
      exact ⟨g, rfl, by rw [← hi, Nat.zero_add]; exact hI⟩
    | succ n ih =>
      intro i g hi hI
      have hl : i < xs.length := by omega
      rw [List.drop_eq_getElem_cons hl, List.map_cons, forGo_cons]
      obtain ⟨g2, h1, h2⟩ := hs i xs[i] g (List.getElem?_eq_getElem hl) hI
      rcases h1 with h1 | h1
      · rw [h1]
        exact ih (i + 1) g2 (by omega) h2
      · rw [h1]
        exact ih (i + 1) g2 (by omega) h2
  exact gen xs.length 0 g (by omega) h0
/-- a while with an invariant and a measure -/
theorem sWh_inv {t : FT} {u : FS} {g : G} (I : Nat → G → Prop) (J : G → Prop) (n : Nat) (h0 : I n g) (hs : ∀ n g, I n g → (∃ g1, t g = .ok false g1 ∧ J g1) ∨ ∃ g1 g2 m, t g = .ok true g1 ∧ (u g1 = .ok .nx g2 ∨ u g1 = .ok .ct g2) ∧ m < n ∧ I m g2) : ∃ g', sWh t u g = .ok .nx g' ∧ J g' := by
  induction n using Nat.strongRecOn generalizing g with
  | _ n ih =>
    rw [sWh_step, whSt_ap]
    rcases hs n g h0 with ⟨g1, h1, h2⟩ | ⟨g1, g2, m, h1, h2, h3, h4⟩
    · rw [h1]
      exact ⟨g1, rfl, h2⟩
    · rw [h1]
      obtain ⟨g', e, hj⟩ := ih m h3 h4
      refine ⟨g', ?_, hj⟩
      rcases h2 with h2 | h2
      · simp only [bind_ok, if_true, h2, e]
      · simp only [bind_ok, if_true, h2, e]
end DL
set_option Elab.async false
set_option linter.all false
set_option maxRecDepth 100000
set_option autoImplicit false
namespace DL
def restR (ns : List Int) (h : Int) : List Int := ns.filter (fun n => decide (h ≤ n))
def codeN (ns : List Int) (h : Int) : Nat := (restR ns h).idxOf h
def codeI (ns : List Int) (h : Int) : Int := (codeN ns h : Nat)
def codesM (ns : List Int) : List Int := (srt ns).map (codeI ns)
def inRn (i : Int) (p : Int × Int) : Bool := if decide (p.1 ≤ i) = true then decide (i ≤ p.2) else false
def runA (ps : List (Int × Int)) (i : Int) : Int × Int := ((ps.filter (inRn i)).head?).getD (0, 0)
def fstR (ps : List (Int × Int)) (pl : Nat) : Int := (ps.getD (pl - 1) (0, 0)).1
def lstR (ps : List (Int × Int)) (pl : Nat) : Int := (ps.getD (min (ps.length - 1) (pl + 1)) (0, 0)).2 - 1
def shiftR (p : Int × Int) : Int × Int := (p.1 - 1, p.2 - 1)
def nextP (ps : List (Int × Int)) (pl : Nat) : List (Int × Int) :=
  ps.take (pl - 1) ++ (if fstR ps pl ≤ lstR ps pl then [(fstR ps pl, lstR ps pl)] else []) ++ (ps.drop (pl + 2)).map shiftR
def nextR (ps : List (Int × Int)) (i : Int) : List (Int × Int) := nextP ps (ps.idxOf (runA ps i))
def goR : List (Int × Int) → List Int → List (Int × Int)
  | _, [] => []
  | here, c :: cs => runA here c :: goR (nextR here c) cs
def iniR (n : Nat) : List (Int × Int) := (List.range n).map fun (i : Nat) => ((i : Int), (i : Int))
def runsC (cs : List Int) : List (Int × Int) := goR (iniR cs.length) cs
def runsM (ns : List Int) : List (Int × Int) := runsC (codesM ns)
theorem srt_len (ns : List Int) : (srt ns).length = ns.length := (srt_perm ns).length_eq
theorem srt_mem {ns : List Int} {h : Int} : h ∈ srt ns ↔ h ∈ ns := (srt_perm ns).mem_iff
theorem srt_lt {ns : List Int} (h : ns.Nodup) : (srt ns).Pairwise (· < ·) := by
  have h1 := srt_sorted ns
  have h2 : (srt ns).Nodup := (srt_perm ns).nodup_iff.mpr h
  exact (h1.and h2).imp fun ⟨a, b⟩ => by omega
theorem restR_erase {ns : List Int} {h h' : Int} (hlt : h < h') : restR (ns.erase h) h' = restR ns h' := by
  unfold restR
  induction ns with
  | nil => rfl
  | cons a t ih =>
    by_cases e : a = h
    · subst e
      rw [List.erase_cons_head, List.filter_cons, if_neg (by simp; omega)]
    · rw [List.erase_cons_tail (by simpa using e), List.filter_cons, List.filter_cons, ih]
theorem codeI_erase {ns : List Int} {h h' : Int} (hlt : h < h') : codeI (ns.erase h) h' = codeI ns h' := by
  unfold codeI codeN
  rw [restR_erase hlt]
theorem srt_erase {ns : List Int} {h : Int} {t : List Int} (e : srt ns = h :: t) : srt (ns.erase h) = t := by
  have p : (h :: t).Perm ns := e ▸ srt_perm ns
  have p2 : t.Perm (ns.erase h) := by
    have z := p.erase h
    rw [List.erase_cons_head] at z
    exact z
  have s : (h :: t).Pairwise (· ≤ ·) := e ▸ srt_sorted ns
  exact (srt_eq p2 (List.pairwise_cons.mp s).2).symm
theorem codes_cons {ns : List Int} {h : Int} {t : List Int} (hn : ns.Nodup) (e : srt ns = h :: t) : codesM ns = codeI ns h :: codesM (ns.erase h) := by
  have lt : (h :: t).Pairwise (· < ·) := e ▸ srt_lt hn
  unfold codesM
  rw [e, srt_erase e, List.map_cons]
  congr 1
  refine List.map_congr_left fun x hx => ?_
  exact (codeI_erase ((List.pairwise_cons.mp lt).1 x hx)).symm
/-- bounds of codes -/
def BdC : Nat → List Int → Prop
  | 0, [] => True
  | n + 1, c :: cs => 0 ≤ c ∧ c ≤ n ∧ BdC n cs
  | _, _ => False
theorem BdC.len : ∀ {n : Nat} {cs : List Int}, BdC n cs → cs.length = n
  | 0, [], _ => rfl
  | n + 1, c :: cs, h => by rw [List.length_cons, BdC.len h.2.2]
  | 0, _ :: _, h => h.elim
  | _ + 1, [], h => h.elim
theorem codeN_lt {ns : List Int} {h : Int} (hm : h ∈ ns) : codeN ns h < (restR ns h).length := List.idxOf_lt_length_of_mem (List.mem_filter.mpr ⟨hm, decide_eq_true (Int.le_refl h)⟩)
theorem codes_nil : codesM [] = [] := by unfold codesM srt; simp
theorem codes_bd : ∀ (n : Nat) (ns : List Int), ns.length = n → ns.Nodup → BdC n (codesM ns)
  | 0, ns, hl, _ => by
    cases ns with
    | nil => rw [codes_nil]; exact trivial
    | cons _ _ => cases hl
  | n + 1, ns, hl, hn => by
    cases e : srt ns with
    | nil =>
      have z := srt_len ns
      rw [e, hl] at z
      cases z
    | cons h t =>
      have hm : h ∈ ns := srt_mem.mp (e ▸ List.mem_cons_self)
      have ihl : (ns.erase h).length = n := by rw [List.length_erase_of_mem hm, hl]; rfl
      rw [codes_cons hn e]
      refine ⟨Int.natCast_nonneg _, ?_, codes_bd n _ ihl (hn.erase h)⟩
      have z := codeN_lt hm
      have z2 := List.length_filter_le (fun n => decide (h ≤ n)) ns
      unfold codeI
      unfold restR at z
      omega
theorem codes_len (ns : List Int) : (codesM ns).length = ns.length := by unfold codesM; rw [List.length_map, srt_len]
def PartF : Int → Int → List (Int × Int) → Prop
  | a, b, [] => a = b
  | a, b, p :: r => p.1 = a ∧ p.1 ≤ p.2 ∧ PartF (p.2 + 1) b r
theorem PartF.le : ∀ {ps : List (Int × Int)} {a b : Int}, PartF a b ps → a ≤ b
  | [], a, b, h => Int.le_of_eq h
  | p :: r, a, b, h => by
    have := PartF.le h.2.2
    have h1 := h.1
    have h2 := h.2.1
    omega
theorem PartF.app : ∀ {ps qs : List (Int × Int)} {a m b : Int}, PartF a m ps → PartF m b qs → PartF a b (ps ++ qs)
  | [], _, a, m, b, h, h' => by rw [show a = m from h]; exact h'
  | p :: r, qs, a, m, b, h, h' => ⟨h.1, h.2.1, PartF.app h.2.2 h'⟩
theorem PartF.split : ∀ {ps qs : List (Int × Int)} {a b : Int}, PartF a b (ps ++ qs) → ∃ m, PartF a m ps ∧ PartF m b qs
  | [], _, a, b, h => ⟨a, rfl, h⟩
  | p :: r, qs, a, b, h => by
    obtain ⟨m, h1, h2⟩ := PartF.split h.2.2
    exact ⟨m, ⟨h.1, h.2.1, h1⟩, h2⟩
theorem PartF.shift : ∀ {ps : List (Int × Int)} {a b : Int}, PartF a b ps → PartF (a - 1) (b - 1) (ps.map shiftR)
  | [], a, b, h => by show a - 1 = b - 1; rw [show a = b from h]
  | p :: r, a, b, h => by
    refine ⟨?_, ?_, ?_⟩
    · show p.1 - 1 = a - 1; rw [h.1]
    · show p.1 - 1 ≤ p.2 - 1; have := h.2.1; omega
    · have z := PartF.shift h.2.2
      show PartF (p.2 - 1 + 1) _ _
      rw [show p.2 - 1 + 1 = p.2 + 1 - 1 by omega]
      exact z
theorem inRn_iff {i : Int} {p : Int × Int} : inRn i p = true ↔ p.1 ≤ i ∧ i ≤ p.2 := by
  unfold inRn
  by_cases h : p.1 ≤ i
  · rw [if_pos (decide_eq_true h)]; simp [h]
  · rw [if_neg (by simpa using h)]; simp [h]
theorem inRn_before {ps : List (Int × Int)} {a b i : Int} (h : PartF a b ps) (hi : b ≤ i) : ∀ p ∈ ps, inRn i p = false := by
  induction ps generalizing a with
  | nil => intro p hp; cases hp
  | cons q r ih =>
    intro p hp
    rcases List.mem_cons.mp hp with e | e
    · subst e
      rw [Bool.eq_false_iff]
      intro z
      have z := (inRn_iff.mp z).2
      have := PartF.le h.2.2
      omega
    · exact ih h.2.2 p e
/-- the part that holds i -/
theorem part_at : ∀ {ps : List (Int × Int)} {a b i : Int}, PartF a b ps → a ≤ i → i < b → ∃ A p B, ps = A ++ p :: B ∧ PartF a p.1 A ∧ p.1 ≤ i ∧ i ≤ p.2 ∧ PartF (p.2 + 1) b B
  | [], a, b, i, h, h1, h2 => by rw [show a = b from h] at h1; omega
  | p :: r, a, b, i, h, h1, h2 => by
    by_cases hi : i ≤ p.2
    · exact ⟨[], p, r, rfl, h.1.symm, by rw [h.1]; exact h1, hi, h.2.2⟩
    · obtain ⟨A, q, B, e, h3, h4, h5, h6⟩ := part_at (i := i) h.2.2 (by omega) h2
      exact ⟨p :: A, q, B, by rw [e]; rfl, ⟨h.1, h.2.1, h3⟩, h4, h5, h6⟩
theorem runA_at {A B : List (Int × Int)} {p : Int × Int} {a i : Int} (hA : PartF a p.1 A) (h1 : p.1 ≤ i) (h2 : i ≤ p.2) : runA (A ++ p :: B) i = p ∧ ((A ++ p :: B).filter (inRn i)).head? = some p := by
  have hf : A.filter (inRn i) = [] := by
    rw [List.filter_eq_nil_iff]
    intro q hq
    rw [inRn_before hA h1 q hq]
    simp
  have hh : ((A ++ p :: B).filter (inRn i)).head? = some p := by
    rw [List.filter_append, hf, List.filter_cons, if_pos (inRn_iff.mpr ⟨h1, h2⟩)]
    rfl
  refine ⟨?_, hh⟩
  unfold runA
  rw [hh]
  rfl
theorem part_fresh {A : List (Int × Int)} {p : Int × Int} {a : Int} (hA : PartF a p.1 A) : p ∉ A := fun q => by
  have h := inRn_before (i := p.1) hA (Int.le_refl _) p q
  induction A generalizing a with
  | nil => cases q
  | cons r t ih =>
    rcases List.mem_cons.mp q with e | e
    · subst e
      have z := PartF.le hA.2.2
      have z2 := hA.2.1
      omega
    · exact ih hA.2.2 e
theorem idx_at {A B : List (Int × Int)} {p : Int × Int} {a i : Int} (hA : PartF a p.1 A) (h1 : p.1 ≤ i) (h2 : i ≤ p.2) : (A ++ p :: B).idxOf (runA (A ++ p :: B) i) = A.length := by
  rw [(runA_at hA h1 h2).1, List.idxOf_append, if_neg (part_fresh hA), List.idxOf_cons_self, Nat.zero_add]
theorem nextP_part {A B : List (Int × Int)} {p : Int × Int} {b : Int} (hA : PartF 0 p.1 A) (hp : p.1 ≤ p.2) (hB : PartF (p.2 + 1) b B) : PartF 0 (b - 1) (nextP (A ++ p :: B) A.length) := by
  -- the left end
  have left : ∃ A', (A ++ p :: B).take (A.length - 1) = A' ∧ PartF 0 (fstR (A ++ p :: B) A.length) A' ∧ fstR (A ++ p :: B) A.length ≤ p.1 ∧ (A ≠ [] → fstR (A ++ p :: B) A.length < p.1) := by
    rcases List.eq_nil_or_concat A with e | ⟨A0, q, e⟩
    · subst e
      refine ⟨[], rfl, ?_, ?_, fun z => absurd rfl z⟩
      · show (0 : Int) = p.1
        exact hA
      · exact Int.le_refl _
    · rw [List.concat_eq_append] at e
      subst e
      obtain ⟨m, h1, h2⟩ := PartF.split hA
      have e1 : (A0 ++ [q] ++ p :: B).take ((A0 ++ [q]).length - 1) = A0 := by
        rw [List.append_assoc, List.length_append]
        exact List.take_left' (by simp)
      have e2 : fstR (A0 ++ [q] ++ p :: B) (A0 ++ [q]).length = q.1 := by
        unfold fstR
        rw [List.append_assoc, List.length_append, show A0.length + [q].length - 1 = A0.length by simp, List.getD_eq_getElem?_getD, List.getElem?_append_right (Nat.le_refl _), Nat.sub_self]
        rfl
      have h3 : q.2 + 1 = p.1 := h2.2.2
      have h4 := h2.2.1
      have h5 := h2.1
      refine ⟨A0, e1, by rw [e2, h5]; exact h1, by rw [e2]; omega, fun _ => by rw [e2]; omega⟩
  have right : PartF (lstR (A ++ p :: B) A.length + 1) (b - 1) (((A ++ p :: B).drop (A.length + 2)).map shiftR) ∧ p.2 - 1 ≤ lstR (A ++ p :: B) A.length ∧ (B ≠ [] → p.2 ≤ lstR (A ++ p :: B) A.length) := by
    cases B with
    | nil =>
      have e1 : (A ++ [p]).drop (A.length + 2) = [] := List.drop_eq_nil_of_le (by simp)
      have e2 : lstR (A ++ [p]) A.length = p.2 - 1 := by
        unfold lstR
        rw [List.length_append, show min (A.length + [p].length - 1) (A.length + 1) = A.length by simp, List.getD_eq_getElem?_getD, List.getElem?_append_right (Nat.le_refl _), Nat.sub_self]
        rfl
      rw [e1, e2]
      have hB : p.2 + 1 = b := hB
      exact ⟨show p.2 - 1 + 1 = b - 1 by omega, Int.le_refl _, fun z => absurd rfl z⟩
    | cons q B =>
      have e1 : (A ++ p :: q :: B).drop (A.length + 2) = B := by
        rw [List.drop_append, List.drop_eq_nil_of_le (by omega), show A.length + 2 - A.length = 2 by omega]
        rfl
      have e2 : lstR (A ++ p :: q :: B) A.length = q.2 - 1 := by
        unfold lstR
        rw [List.length_append, show min (A.length + (p :: q :: B).length - 1) (A.length + 1) = A.length + 1 by simp, List.getD_eq_getElem?_getD, List.getElem?_append_right (by omega), show A.length + 1 - A.length = 1 by omega]
        rfl
      rw [e1, e2]
      have z := hB.2.2.shift
      have h4 := hB.1
      have h5 := hB.2.1
      rw [show q.2 + 1 - 1 = q.2 - 1 + 1 by omega] at z
      exact ⟨z, by omega, fun _ => by omega⟩
  obtain ⟨A', e1, h1, h2, h3⟩ := left
  obtain ⟨h4, h5, h6⟩ := right
  unfold nextP
  rw [e1]
  by_cases hc : fstR (A ++ p :: B) A.length ≤ lstR (A ++ p :: B) A.length
  · rw [if_pos hc]
    exact PartF.app (PartF.app h1 ⟨rfl, hc, rfl⟩) h4
  · rw [if_neg hc, List.append_nil]
    have e : fstR (A ++ p :: B) A.length = lstR (A ++ p :: B) A.length + 1 := by omega
    rw [e] at h1
    exact PartF.app h1 h4
theorem runA_in {ps : List (Int × Int)} {n i : Int} (h : PartF 0 n ps) (h0 : 0 ≤ i) (h1 : i < n) : ∃ A p B, ps = A ++ p :: B ∧ runA ps i = p ∧ (ps.filter (inRn i)).head? = some p ∧ ps.idxOf (runA ps i) = A.length ∧ p.1 ≤ i ∧ i ≤ p.2 ∧ PartF 0 p.1 A ∧ PartF (p.2 + 1) n B := by
  obtain ⟨A, p, B, e, hA, l1, l2, hB⟩ := part_at h h0 h1
  subst e
  exact ⟨A, p, B, rfl, (runA_at hA l1 l2).1, (runA_at hA l1 l2).2, idx_at hA l1 l2, l1, l2, hA, hB⟩
theorem nextR_part {ps : List (Int × Int)} {n i : Int} (h : PartF 0 n ps) (h0 : 0 ≤ i) (h1 : i < n) : PartF 0 (n - 1) (nextR ps i) := by
  obtain ⟨A, p, B, e, _, _, e3, l1, l2, hA, hB⟩ := runA_in h h0 h1
  subst e
  unfold nextR
  rw [e3]
  exact nextP_part hA (by omega) hB
theorem run_bounds {ps : List (Int × Int)} {n i : Int} (h : PartF 0 n ps) (h0 : 0 ≤ i) (h1 : i < n) : 0 ≤ (runA ps i).1 ∧ (runA ps i).1 ≤ i ∧ i ≤ (runA ps i).2 ∧ (runA ps i).2 < n := by
  obtain ⟨A, p, B, e, e1, _, e3, l1, l2, hA, hB⟩ := runA_in h h0 h1
  rw [e1]
  have z1 := hA.le
  have z2 := hB.le
  exact ⟨z1, l1, l2, by omega⟩
theorem iniR_part (n : Nat) : PartF 0 n (iniR n) := by
  have gen : ∀ (m k : Nat), PartF (k : Int) ((k + m : Nat) : Int) ((List.range' k m).map fun (i : Nat) => ((i : Int), (i : Int))) := by
    intro m
    induction m with
    | zero => intro k; rfl
    | succ m ih =>
      intro k
      rw [List.range'_succ, List.map_cons]
      refine ⟨rfl, Int.le_refl _, ?_⟩
      have z := ih (k + 1)
      rw [show k + 1 + m = k + (m + 1) by omega] at z
      exact z
  have z := gen n 0
  unfold iniR
  rw [List.range_eq_range', ← Nat.zero_add n]
  simpa using z
/-- marks within the runs give the same runs -/
def InRs : List (Int × Int) → List Int → Prop
  | [], [] => True
  | p :: ps, c :: cs => p.1 ≤ c ∧ c ≤ p.2 ∧ InRs ps cs
  | _, _ => False
theorem inRs_self : ∀ {n : Nat} {here : List (Int × Int)} {cs : List Int}, PartF 0 n here → BdC n cs → InRs (goR here cs) cs
  | 0, _, [], _, _ => trivial
  | 0, _, _ :: _, _, h => h.elim
  | n + 1, _, [], _, h => h.elim
  | n + 1, here, c :: cs, hp, hb => by
    obtain ⟨c0, c1, hb⟩ := hb
    have hc : c < ((n + 1 : Nat) : Int) := by omega
    obtain ⟨b0, b1, b2, b3⟩ := run_bounds hp c0 hc
    have np := nextR_part hp c0 hc
    rw [show ((n + 1 : Nat) : Int) - 1 = (n : Int) by omega] at np
    exact ⟨b1, b2, inRs_self np hb⟩
end DL
set_option Elab.async false
set_option linter.all false
set_option maxRecDepth 100000
set_option autoImplicit false
namespace DL
open PySem PySem.Spec PyProof.Rows L2
theorem index_int {ms : List Int} {h : Int} (hm : h ∈ ms) : (zD ms).findIdx? (fun z => PyData.eqv z (.int h)) = some (ms.idxOf h) := by
  induction ms with
  | nil => cases hm
  | cons a t ih =>
    show (List.findIdx? _ (_ :: _)) = _
    rw [List.findIdx?_cons]
    have e : PyData.eqv (.int a) (.int h) = (a == h) := by simp [PyData.eqv]
    rw [e]
    by_cases q : a = h
    · subst q; simp
    · have q' : (a == h) = false := by simpa using q
      rw [q', List.idxOf_cons, q']
      simp only [Bool.false_eq_true, if_false]
      rcases List.mem_cons.mp hm with z | z
      · exact absurd z.symm q
      · rw [ih z]; rfl
theorem zip2_map {α β : Type} (f : α → PyData) (g : β → PyData) : ∀ (xs : List α) (ys : List β), zip2 (xs.map f) (ys.map g) = (xs.zip ys).map (fun q => .tuple [f q.1, g q.2])
  | [], _ => rfl
  | _ :: _, [] => rfl
  | x :: xs, y :: ys => congrArg (PyData.tuple [f x, g y] :: ·) (zip2_map f g xs ys)
theorem cut_from {α : Type} (xs : List α) (n : Nat) : cut xs (some (n : Int)) none = xs.drop n := by
  unfold cut
  rw [HT.sIx_nat, HT.sIx_none]
  by_cases h : n ≤ xs.length
  · rw [Nat.min_eq_left h, List.take_of_length_le (by rw [List.length_drop]; exact Nat.le_refl _)]
  · rw [Nat.min_eq_right (by omega), List.drop_length, List.drop_eq_nil_of_le (by omega), List.take_nil]
theorem cut_to {α : Type} (xs : List α) (n : Nat) : cut xs none (some (n : Int)) = xs.take n := by
  unfold cut
  rw [HT.sIx_nat, HT.sIx_none, Nat.sub_zero, List.drop_zero]
  by_cases h : n ≤ xs.length
  · rw [Nat.min_eq_left h]
  · rw [Nat.min_eq_right (by omega), List.take_length, List.take_of_length_le (by omega)]
theorem cut_map {α β : Type} (f : α → β) (xs : List α) (a b : Option Int) : cut (xs.map f) a b = (cut xs a b).map f := by
  unfold cut
  rw [List.length_map, List.map_take, List.map_drop]
end DL
set_option Elab.async false
set_option linter.all false
set_option maxRecDepth 100000
set_option maxHeartbeats 1000000
set_option autoImplicit false
namespace DL
open PySem PySem.Spec PyProof.Rows L2
theorem callF_ok {f : Fn} {rs : List R} {q : Res} {g : G} {own : Bool} (h : f rs [] = .ok q []) (hb : boxes rs = []) (hr : rs.map (renR []) = rs) (hL : rs.all noL = true) : callF f own rs g = .ok (resF own g q).1 (resF own g q).2 := by
  unfold callF
  rw [hb, if_pos ⟨List.nodup_nil, fun j hj => (nomatch hj), hL⟩, hr, List.map_nil, h]
  rfl
theorem call_of {f : Fn} {rs : List R} {x : PyData} (h : f rs [] = .ok (.dat x) []) (g : G) (own : Bool) (hb : boxes rs = [] := by rfl) (hr : rs.map (renR []) = rs := by rfl) (hL : rs.all noL = true := by rfl) : callF f own rs g = .ok (.d x) g := callF_ok h hb hr hL
theorem call_lst {f : Fn} {rs : List R} {ds : List PyData} (h : f rs [] = .ok (.newC (.lst ds)) []) (g : G) (hb : boxes rs = [] := by rfl) (hr : rs.map (renR []) = rs := by rfl) (hL : rs.all noL = true := by rfl) : callF f false rs g = .ok (.d (.list ds)) g := callF_ok h hb hr hL
theorem call_newO {f : Fn} {rs : List R} {ct : Ct} (h : f rs [] = .ok (.newC ct) []) (g : G) (hb : boxes rs = [] := by rfl) (hr : rs.map (renR []) = rs := by rfl) (hL : rs.all noL = true := by rfl) : callF f true rs g = .ok (.o g.ce.length) ⟨g.sl, g.ce ++ [ct]⟩ := callF_ok h hb hr hL
theorem callB_ok {f : Fn} {rs : List R} {q : Res} {g : G} {own : Bool} {j : Nat} {ct ct' : Ct} (hj : g.ce[j]? = some ct) (ha : aliveB (some ct) = true) (h : f (.o 0 :: rs) [ct] = .ok q [ct']) (hb : boxes rs = []) (hr : rs.map (renR [j]) = rs) (hL : (R.o j :: rs).all noL = true) :
    callF f own (.o j :: rs) g = .ok (resF own ⟨g.sl, g.ce.set j ct'⟩ q).1 (resF own ⟨g.sl, g.ce.set j ct'⟩ q).2 := by
  have hb' : boxes (.o j :: rs) = [j] := by
    unfold boxes at hb ⊢
    rw [List.filterMap_cons]
    show j :: _ = _
    rw [hb]
  unfold callF
  rw [hb', if_pos ⟨by simp, fun i hi => by rw [List.mem_singleton.mp hi, hj]; exact ha, hL⟩, List.map_cons, hr]
  have e1 : renR [j] (.o j) = .o 0 := by show R.o ([j].idxOf j) = _; simp
  have e2 : [j].map (fun j => g.ce.getD j .dead) = [ct] := by
    rw [List.map_cons, List.map_nil, List.getD_eq_getElem?_getD, hj]; rfl
  rw [e1, e2, h]
  rfl
theorem callB_of {f : Fn} {rs : List R} {x : PyData} {j : Nat} {ds ds' : List PyData} (h : f (.o 0 :: rs) [.lst ds] = .ok (.dat x) [.lst ds']) {g : G} (own : Bool) (hj : g.ce[j]? = some (.lst ds)) (hb : boxes rs = [] := by rfl) (hr : rs.map (renR [j]) = rs := by rfl) (hL : (R.o j :: rs).all noL = true := by rfl) :
    callF f own (.o j :: rs) g = .ok (.d x) ⟨g.sl, g.ce.set j (.lst ds')⟩ := callB_ok hj rfl h hb hr hL
theorem callB_new {f : Fn} {rs : List R} {es : List PyData} {j : Nat} {ds ds' : List PyData} (h : f (.o 0 :: rs) [.lst ds] = .ok (.newC (.lst es)) [.lst ds']) {g : G} (hj : g.ce[j]? = some (.lst ds)) (hb : boxes rs = [] := by rfl) (hr : rs.map (renR [j]) = rs := by rfl) (hL : (R.o j :: rs).all noL = true := by rfl) :
    callF f false (.o j :: rs) g = .ok (.d (.list es)) ⟨g.sl, g.ce.set j (.lst ds')⟩ := callB_ok hj rfl h hb hr hL
theorem any_emb {α : Type} [DecidableEq α] (emb : α → PyData) (h : ∀ a b, PyData.eqv (emb a) (emb b) = decide (a = b)) (ns : List α) (i : α) : ((ns.map emb).any fun z => PyData.eqv z (emb i)) = decide (i ∈ ns) := by
  rw [Bool.eq_iff_iff, List.any_eq_true, decide_eq_true_eq]
  constructor
  · rintro ⟨x, hx, e⟩
    obtain ⟨n, hn, rfl⟩ := List.mem_map.mp hx
    rw [h] at e
    rw [← of_decide_eq_true e]
    exact hn
  · intro hi
    exact ⟨_, List.mem_map.mpr ⟨i, hi, rfl⟩, by rw [h]; simp⟩
@[simp] theorem any_zD (ns : List Int) (i : Int) : ((zD ns).any fun z => PyData.eqv z (.int i)) = decide (i ∈ ns) := any_emb PyData.int (fun _ _ => eqv_int) ns i
@[simp] theorem any_psD (ps : List (Int × Int)) (p : Int × Int) : ((psD ps).any fun z => PyData.eqv z (pD p)) = decide (p ∈ ps) := (any_emb pD (fun _ _ => eqv_pD) ps p).trans (decide_eq_decide.mpr Iff.rfl)
theorem rng0 (n : Nat) : rng 0 n = (List.range n).map (fun (i : Nat) => PyData.int (i : Int)) := by
  unfold rng
  exact List.map_congr_left fun i _ => by rw [Int.zero_add]
theorem rOk_of {i : Int} (h1 : -1000000000 ≤ i) (h2 : i ≤ 1000000000) : rOk i = true := decide_eq_true ⟨by omega, by omega⟩
theorem atI_cast {α : Type} (xs : List α) (n : Nat) : atI xs (n : Int) = xs[n]? := by
  unfold atI ixN
  by_cases h : n < xs.length
  · simp [show ¬ ((n : Int) < 0) by omega, h]
  · simp [show ¬ ((n : Int) < 0) by omega, h]
@[simp] theorem atI_0 {α : Type} (xs : List α) : atI xs 0 = xs[0]? := atI_cast xs 0
@[simp] theorem atI_1 {α : Type} (xs : List α) : atI xs 1 = xs[1]? := atI_cast xs 1
@[simp] theorem atI_2 {α : Type} (xs : List α) : atI xs 2 = xs[2]? := atI_cast xs 2
@[simp] theorem atI_m1 {α : Type} (xs : List α) (x : α) : atI (xs ++ [x]) (-1) = some x := L2.atI_last xs x
end DL
set_option Elab.async false
set_option linter.all false
set_option maxRecDepth 100000
set_option autoImplicit false
namespace DL
open PySem PySem.Spec PyProof.Rows L2
theorem log_small {b : Int} (h0 : 0 < b) (h : b ≤ 10 ^ 100) : b.natAbs.log2 < 9000 := by
  have h1 : b.natAbs ≤ 10 ^ 100 := by omega
  have h2 : b.natAbs < 2 ^ 9000 := Nat.lt_of_le_of_lt h1 (by decide +kernel)
  exact (Nat.log2_lt (by omega)).mpr h2
theorem atI_int {α : Type} {xs : List α} {r : Int} (h0 : 0 ≤ r) (h1 : r < xs.length) : ∃ x, x ∈ xs ∧ xs[r.toNat]? = some x ∧ atI xs r = some x := by
  have hl : r.toNat < xs.length := by omega
  refine ⟨xs[r.toNat], List.getElem_mem hl, List.getElem?_eq_getElem hl, ?_⟩
  have e : ((r.toNat : Nat) : Int) = r := Int.toNat_of_nonneg h0
  have z := atI_nat (List.getElem?_eq_getElem hl)
  rw [e] at z
  exact z
theorem seqIx {n : Nat} {r : Int} (h0 : 0 ≤ r) (h1 : r < n) : seqIndex? r n = some r.toNat := by
  refine (ixN_seq ?_).1
  unfold ixN
  rw [if_pos h0, if_pos h1]
theorem perm_pop {α : Type} {f l ds : List α} {i : Nat} {x : α} (h : (f ++ l).Perm ds) (hx : l[i]? = some x) : ((f ++ [x]) ++ l.eraseIdx i).Perm ds := by
  refine List.Perm.trans ?_ h
  rw [List.append_assoc]
  refine List.Perm.append_left f ?_
  have hl := (List.getElem?_eq_some_iff.mp hx).1
  have hv := (List.getElem?_eq_some_iff.mp hx).2
  rw [List.eraseIdx_eq_take_drop_succ]
  have e : l = l.take i ++ x :: l.drop (i + 1) := by
    rw [← hv, ← List.drop_eq_getElem_cons hl, List.take_append_drop]
  conv => rhs; rw [e]
  show (x :: (l.take i ++ l.drop (i + 1))).Perm _
  exact List.perm_middle.symm
/-- a box of draws; at most n draws out of its own numbers so far -/
def BoxOk (n : Nat) (bx : List PyData) : Prop := ∃ a b c : Int, bx = [.int a, .int b, .int c] ∧ 0 ≤ a ∧ 0 ≤ b ∧ b < 2 ^ 62 ∧ 0 ≤ c ∧ c ≤ n
theorem BoxOk.mono {n m : Nat} {bx : List PyData} (h : BoxOk n bx) (hm : n ≤ m) : BoxOk m bx := by
  obtain ⟨a, b, c, e, h1, h2, h3, h4, h5⟩ := h
  exact ⟨a, b, c, e, h1, h2, h3, h4, by omega⟩
def boxM (x : Int) (j : Nat) : List PyData := [.int ((if x < 0 then -x else x) * (if decide ((10 : Int) ^ (18 : Int).toNat ≤ (if x < 0 then -x else x)) = true then 1 else 0)), .int (x % 2305843009213693951 + 39373 * (j : Int) + 29), .int 0]
theorem boxM_ok (x : Int) (j : Nat) (hj : j < 64) : BoxOk 0 (boxM x j) := by
  refine ⟨_, _, _, rfl, ?_, ?_, ?_, Int.le_refl _, Int.le_refl _⟩
  · refine Int.mul_nonneg ?_ ?_
    · split <;> omega
    · split <;> omega
  · have := Int.emod_nonneg x (show (2305843009213693951 : Int) ≠ 0 by decide)
    omega
  · have := Int.emod_lt_of_pos x (show (0 : Int) < 2305843009213693951 by decide)
    omega
end DL
set_option Elab.async false
set_option linter.all false
set_option maxRecDepth 100000
set_option autoImplicit false
namespace DL
open PySem PySem.Spec PyProof.Rows L2
/-- a row with marks within the runs -/
structure Mate (ns t : List Int) : Prop where
  nd : t.Nodup
  sr : srt t = srt ns
  rn : runsM t = runsM ns
  len : t.length = ns.length
theorem InRs.len : ∀ {ps : List (Int × Int)} {ms : List Int}, InRs ps ms → ms.length = ps.length
  | [], [], _ => rfl
  | _ :: _, _ :: _, h => by rw [List.length_cons, List.length_cons, InRs.len h.2.2]
  | [], _ :: _, h => h.elim
  | _ :: _, [], h => h.elim
def tupD (l : List Int) : PyData := .tuple (zD l)
end DL
set_option Elab.async false
set_option linter.all false
set_option maxRecDepth 100000
set_option autoImplicit false
namespace DL
open PySem PySem.Spec PyProof.Rows L2
/-- two indices in one part -/
def Jn (ps : List (Int × Int)) (i : Int) : Prop := ∃ q ∈ ps, q.1 ≤ i ∧ i + 1 ≤ q.2
/-- the row and the row after the exchange -/
abbrev rowE (A : List Int) (x : Int) (M : List Int) (y : Int) (D : List Int) : List Int := A ++ x :: (M ++ y :: D)
end DL
set_option Elab.async false
set_option linter.all false
set_option maxRecDepth 100000
set_option autoImplicit false
namespace DL
open PySem PySem.Spec PyProof.Rows L2
end DL
set_option Elab.async false
set_option linter.all false
set_option maxRecDepth 100000
set_option autoImplicit false
namespace DL
open PySem PySem.Spec PyProof.Rows L2
def minI (a b : Int) : Int := if b < a then b else a
def betw (ns : List Int) (i j : Nat) : List Int := (ns.drop (i + 1)).take (j - (i + 1))
def seesN (ns : List Int) (i j : Nat) : Bool := (betw ns i j).all (fun z => decide (z < minI (ns.getD i 0) (ns.getD j 0)))
def sightsAt (ns : List Int) (i : Nat) : List (Nat × Nat) := ((List.range' (i + 1) (ns.length - (i + 1))).filter (seesN ns i)).map (fun j => (i, j))
def sightsM (ns : List Int) : List (Nat × Nat) := (List.range ns.length).flatMap (sightsAt ns)
def exchM (ns : List Int) : List (Nat × Nat) := (sightsM ns).filter (fun p => decide (p.1 + 1 < p.2))
def swapM (ns : List Int) (i j : Nat) : List Int := ns.take i ++ [ns.getD j 0] ++ betw ns i j ++ [ns.getD i 0] ++ ns.drop (j + 1)
theorem sights_mem {ns : List Int} {i j : Nat} : (i, j) ∈ sightsM ns ↔ i < j ∧ j < ns.length ∧ seesN ns i j = true := by
  unfold sightsM sightsAt
  rw [List.mem_flatMap]
  constructor
  · rintro ⟨k, hk, h⟩
    obtain ⟨l, hl, e⟩ := List.mem_map.mp h
    obtain ⟨h1, h2⟩ := List.mem_filter.mp hl
    cases e
    have := List.mem_range'_1.mp h1
    exact ⟨by omega, by omega, h2⟩
  · rintro ⟨h1, h2, h3⟩
    exact ⟨i, List.mem_range.mpr (by omega), List.mem_map.mpr ⟨j, List.mem_filter.mpr ⟨List.mem_range'_1.mpr ⟨by omega, by omega⟩, h3⟩, rfl⟩⟩
theorem exch_mem {ns : List Int} {i j : Nat} : (i, j) ∈ exchM ns ↔ i + 1 < j ∧ j < ns.length ∧ seesN ns i j = true := by
  unfold exchM
  rw [List.mem_filter, sights_mem]
  simp only [decide_eq_true_eq]
  constructor
  · rintro ⟨⟨h1, h2, h3⟩, h4⟩; exact ⟨h4, h2, h3⟩
  · rintro ⟨h1, h2, h3⟩; exact ⟨⟨by omega, h2, h3⟩, h1⟩
theorem split_at {ns : List Int} {i j : Nat} (h1 : i < j) (h2 : j < ns.length) : ns = rowE (ns.take i) (ns.getD i 0) (betw ns i j) (ns.getD j 0) (ns.drop (j + 1)) ∧ (ns.take i).length = i ∧ (betw ns i j).length = j - (i + 1) ∧ swapM ns i j = rowE (ns.take i) (ns.getD j 0) (betw ns i j) (ns.getD i 0) (ns.drop (j + 1)) := by
  have e1 : ns.drop i = ns.getD i 0 :: ns.drop (i + 1) := by
    rw [List.drop_eq_getElem_cons (by omega)]
    congr 1
    rw [List.getD_eq_getElem?_getD, List.getElem?_eq_getElem (by omega)]
    rfl
  have e2 : ns.drop (i + 1) = betw ns i j ++ ns.getD j 0 :: ns.drop (j + 1) := by
    have e3 : ns.drop j = ns.getD j 0 :: ns.drop (j + 1) := by
      rw [List.drop_eq_getElem_cons h2]
      congr 1
      rw [List.getD_eq_getElem?_getD, List.getElem?_eq_getElem h2]
      rfl
    rw [← e3]
    unfold betw
    have e4 : (ns.drop (i + 1)).drop (j - (i + 1)) = ns.drop j := by rw [List.drop_drop, show i + 1 + (j - (i + 1)) = j by omega]
    rw [← e4, List.take_append_drop]
  refine ⟨?_, List.length_take_of_le (by omega), ?_, ?_⟩
  · unfold rowE
    rw [← e2, ← e1, List.take_append_drop]
  · unfold betw
    rw [List.length_take, List.length_drop]
    omega
  · unfold swapM rowE
    simp
end DL
namespace DL
open PySem PySem.Spec PyProof.Rows L2
theorem cut_betw {ns : List Int} {i j : Nat} (h1 : i < j) (h2 : j < ns.length) : cut ns (some ((i : Int) + 1)) (some (j : Int)) = betw ns i j := by
  unfold cut betw
  rw [show ((i : Int) + 1) = ((i + 1 : Nat) : Int) by omega, HT.sIx_nat, HT.sIx_nat, Nat.min_eq_left (by omega), Nat.min_eq_left (by omega)]
theorem at_getD {ns : List Int} {i : Nat} (h : i < ns.length) : atI (zD ns) (i : Int) = some (.int (ns.getD i 0)) := by
  refine atI_nat ?_
  rw [List.getElem?_map, List.getD_eq_getElem?_getD, List.getElem?_eq_getElem h]
  rfl
theorem rngN (i m : Nat) : rng ((i : Nat) : Int) m = (List.range' i m).map (fun (j : Nat) => PyData.int (j : Int)) := by
  unfold rng
  rw [List.range'_eq_map_range, List.map_map]
  exact List.map_congr_left fun t _ => by show PyData.int _ = PyData.int _; congr 1
theorem sightsAt_len (ns : List Int) (i : Nat) : (sightsAt ns i).length ≤ ns.length := by
  unfold sightsAt
  rw [List.length_map]
  have z := List.length_filter_le (seesN ns i) (List.range' (i + 1) (ns.length - (i + 1)))
  rw [List.length_range'] at z
  omega
theorem sights_len (ns : List Int) : ∀ i, ((List.range i).flatMap (sightsAt ns)).length ≤ i * ns.length
  | 0 => by simp
  | i + 1 => by
    rw [List.range_succ, List.flatMap_append, List.length_append, List.flatMap_cons, List.flatMap_nil, List.append_nil]
    have h1 := sights_len ns i
    have h2 := sightsAt_len ns i
    rw [Nat.succ_mul]
    omega
end DL
namespace DL
open PySem PySem.Spec PyProof.Rows L2
theorem Mate.trans {a b c : List Int} (h1 : Mate a b) (h2 : Mate b c) : Mate a c := ⟨h2.nd, h2.sr.trans h1.sr, h2.rn.trans h1.rn, h2.len.trans h1.len⟩
end DL
namespace DL
open PySem PySem.Spec PyProof.Rows L2
end DL
set_option Elab.async false
set_option linter.all false
set_option maxRecDepth 100000
set_option autoImplicit false
namespace DL
theorem runs_in {t : List Int} (hn : t.Nodup) : InRs (runsM t) (codesM t) := by
  unfold runsM runsC
  rw [codes_len]
  exact inRs_self (iniR_part _) (codes_bd t.length t rfl hn)
theorem Mate.inr {ns t : List Int} (h : Mate ns t) : InRs (runsM ns) (codesM t) := by rw [← h.rn]; exact runs_in h.nd
theorem Mate.perm {ns t : List Int} (h : Mate ns t) : ns.Perm t := (srt_perm ns).symm.trans (h.sr ▸ srt_perm t)
theorem Mate.symm {ns t : List Int} (h : Mate ns t) (hn : ns.Nodup) : Mate t ns := ⟨hn, h.sr.symm, h.rn.symm, h.len.symm⟩
end DL
set_option Elab.async false
set_option linter.all false
set_option maxRecDepth 100000
set_option maxHeartbeats 4000000
set_option autoImplicit false
namespace DL
open PySem PySem.Spec PyProof.Rows L2
theorem Calm.un65 {k : Nat} {A : Around} (c : Calm k A) : A.units + 65 < cLine := DL.un65 c.room
theorem Calm.un1 {k : Nat} {A : Around} (c : Calm k A) : A.units + 1 < cLine := DL.un1 c.room
theorem fnFx {P : Program} {w : World} {fr : PySem.W.Frag} {mg : Str → Option Value} {base : Heap} {cl : Str → Addr} {x qual : Str} {st : Stmt} {f : Addr} {fd : FuncData} {N ps : List Str} {k : Nat} {u : FS} (F : Fun fr x qual st f fd) (S : FnScope N ps (defScope st))
    (body : ∀ (cdv : Value) (A : Around) (outer : List Env) (s : Shared) (H : Hp) (E : XK) (ρ : Root) (dx : DX), ρ.cl = cl → Calm k (A.deeper (envOfC qual (defScope st) s.heap.objs.size f cdv)) →
      Takes (cxOf (L2.CX P w) P w fr mg base N qual (defScope st) f cdv A outer s H E) (liftX ⟨fr, ρ⟩ dx) →
      ∃ v, PFSs ρ (cxOf (L2.CX P w) P w fr mg base N qual (defScope st) f cdv A outer s H E) dx (defBody st) v ∧ v = u) : FnG P w fr mg base (L2.CX P w) (k + 1) f fd ps (spF fr cl ps.length (mkFn N.length u)) :=
  fnF F S fun cdv A outer s H E ρ dx hcl hr tk => by
    obtain ⟨v, h, e⟩ := body cdv A outer s H E ρ dx hcl hr tk
    rw [← e]
    exact h
theorem takes_no {X : Cx} {K : KR} : Takes X (liftX K dx0) := fun u s' ⟨_, _, _, _, _, _, _, _, _, _, _, _, _, _, _, _, w⟩ => by
  obtain ⟨_, _, _, _, _, _, _, h, _⟩ := w
  exact h.elim
section
variable {P : Program} {w : World} {K : PySem.W.Frag} {mg mb : Str → Option Value} {k : Nat} {fa a : Addr} {fd : FuncData} {x : Str} {sp : Sp} {s₁ : Shared} {vs : List Value} {ns : List Int}
/-- what the law's call must end with -/
abbrev Won (s₁ : Shared) : Except Value Flow → Shared → Prop := fun r s' => r = .ok (.ret (.bool true)) ∧ OldK s₁.heap s'.heap ∧ s'.os = s₁.os ∧ AllBare s'.gens
/-- .. while H, which tracks the script alone, stands for the heap -/
theorem law_over (KX : K.In s₁.heap) (hns : s₁.heap.Ns mainGlobals mg) (hb : s₁.heap.Ns builtinsNs mb) (hbb : ∀ x : Str, x ≠ "__name__" → mb x = bootBuiltins x) (hlim : s₁.heap.NoLimit) (hg : s₁.gens = #[])
    (ha : s₁.heap.get? a = some { cls := .type "list", data := .seq vs.toArray }) (hr : Room k callerA)
    (F : ∀ base : Heap, K.In base → base.Ns mainGlobals mg → FnG P w K mg base (L2.CX P w) k fa fd [x] sp) (hbind : ∀ (s : Shared) (u : Value), BindsTo s fd ⟨[u], []⟩ [(x, u)])
    {H : Hp} (hsp : sp [.ref a] H (fun v _ => v = .bl true) fun _ _ _ => False) (hok : HOk P w H s₁.heap) (only : ∀ b u, H b = some u → b = a ∧ K.lookup a = none ∧ ∃ o xs, u = .frz o (.lst xs)) :
    codeAny (model P w) callerA (.call (.ref fa) ⟨[.ref a], []⟩) (Won s₁) s₁ := by
  have plain : ∀ {b : Addr} {o : Obj}, s₁.heap.get? b = some o → (∃ es ep, o.data = .dict es ep) ∨ K.lookup b = some o → H b = none := fun {b o} e h => by
    cases q : H b with
    | none => rfl
    | some u =>
      obtain ⟨e1, e2, _⟩ := only b u q
      subst e1
      rcases h with ⟨es, ep, d⟩ | h
      · rw [ha] at e
        cases e
        cases (show Data.seq vs.toArray _ = Data.dict es ep from d)
      · rw [e2] at h
        cases h
  have names : ∀ {b : Addr} {m : Str → Option Value}, s₁.heap.Ns b m → (hidT s₁.heap H).Ns b m := fun {b m} ⟨o, es, ep, e, d, r⟩ => ⟨o, es, ep, hidT_get e (plain e (.inl ⟨es, ep, d⟩)), d, r⟩
  have kin : K.In (hidT s₁.heap H) := fun b o e => hidT_get (KX b o e) (plain (KX b o e) (.inr e))
  obtain ⟨mc, l1, l2⟩ := hlim
  have e0 : Env0 P w K mg (hidT s₁.heap H) callerA [] s₁ H := ⟨rfl, ⟨kin, names hns, ⟨mb, names hb, hbb⟩, ⟨mc, names l1, l2⟩⟩, fun b o e => of_hidT e, Nat.le_of_eq (hidT_size _ _), trivial, fun b hb => (List.not_mem_nil hb).elim, hok, .of_eq hg⟩
  refine codeAny_mono ((F _ kin (names hns)).goes callerA [] s₁ H ⟨[.ref a], []⟩ [.ref a] [.ref a] _ _ ⟨hr, rfl⟩ e0 (hbind s₁ (.ref a)) (.cons rfl .nil) hsp) fun r s' h => ?_
  match r, h with
  | .error e, h =>
    obtain ⟨_, _, _, _, _, _, _, _, _, _, _, _, z⟩ := h
    exact z.elim
  | .ok .next, h => exact h.elim
  | .ok .brk, h => exact h.elim
  | .ok .cont, h => exact h.elim
  | .ok (.ret u), ⟨v, H', os, bare, un, hok', r', q⟩ =>
    have q : v = .bl true := q
    subst q
    obtain rfl : u = Value.bool true := r'
    refine ⟨rfl, OldK.of_keep fun b o e => ?_, os, bare⟩
    cases q : H b with
    | none => exact un.keep b o e q (fun z => (List.not_mem_nil z).elim) (by simp)
    | some z =>
      obtain ⟨_, _, ob, xs, rfl⟩ := only b z q
      obtain ⟨e1, _⟩ := hok b _ q
      obtain ⟨e2, _⟩ := hok' b _ (un.frzs b ob _ q)
      rw [e] at e1
      cases e1
      exact e2
theorem law_done (KX : K.In s₁.heap) (hns : s₁.heap.Ns mainGlobals mg) (hb : s₁.heap.Ns builtinsNs mb) (hbb : ∀ x : Str, x ≠ "__name__" → mb x = bootBuiltins x) (hlim : s₁.heap.NoLimit) (hg : s₁.gens = #[])
    (ha : s₁.heap.get? a = some { cls := .type "list", data := .seq vs.toArray }) (hi : IntsAre vs ns) (hl : ns.length ≤ sizeLine) (hr : Room k callerA)
    (F : ∀ base : Heap, K.In base → base.Ns mainGlobals mg → FnG P w K mg base (L2.CX P w) k fa fd [x] sp) (hbind : ∀ (s : Shared) (u : Value), BindsTo s fd ⟨[u], []⟩ [(x, u)])
    (hsp : ∀ H : Hp, SqL K H a (ns.map V.int) → sp [.ref a] H (fun v _ => v = .bl true) fun _ _ _ => False) : codeAny (model P w) callerA (.call (.ref fa) ⟨[.ref a], []⟩) (Won s₁) s₁ := by
  have rv := vals_ints hi
  cases hk : K.lookup a with
  | some o =>
    have e := KX a o hk
    rw [ha] at e
    cases e
    refine law_over KX hns hb hbb hlim hg ha hr F hbind (hsp (fun _ => none) (.inr ⟨_, vs.toArray, _, hk, rfl, rfl, rfl, ?_, ?_⟩)) (fun b u z => nomatch z) fun b u z => nomatch z
    · rw [List.size_toArray, hi.length]; exact hl
    · simpa using rv
  | none =>
    have at_ : ∀ {b : Addr} {u : HO}, upd (fun _ => none) a (.frz { cls := .type "list", data := .seq vs.toArray } (.lst (ns.map V.int))) b = some u → b = a ∧ u = .frz { cls := .type "list", data := .seq vs.toArray } (.lst (ns.map V.int)) := fun {b u} z => by
      by_cases hb : b = a
      · subst hb
        rw [upd_same] at z
        exact ⟨rfl, (Option.some.inj z).symm⟩
      · rw [upd_ne hb] at z
        cases z
    refine law_over KX hns hb hbb hlim hg ha hr F hbind (hsp (upd (fun _ => none) a (.frz { cls := .type "list", data := .seq vs.toArray } (.lst (ns.map V.int)))) (.inl (.inr ⟨_, upd_same⟩))) (fun b u z => ?_) fun b u z => ?_
    · obtain ⟨rfl, rfl⟩ := at_ z
      exact ⟨ha, by rw [List.length_map]; exact hl, vs, _, rv, ha⟩
    · obtain ⟨rfl, rfl⟩ := at_ z
      exact ⟨rfl, hk, _, _, rfl⟩
end
/-- the law's own call -/
theorem law_start {K : PySem.W.Frag} {cl : Str → Addr} {H : Hp} {a : Addr} {ns : List Int} {f : Fn} {E : XK} (hS : SqL K H a (ns.map V.int)) (hf : f [.s ns] [] = .ok (.dat (.bool true)) []) : spF K cl 1 f [.ref a] H (fun v _ => v = .bl true) E := by
  refine ⟨H, fun _ => none, [], [], [.s ns], rfl, ?_, .cons ⟨a, rfl, hS⟩ .nil, (by rw [hf]; intro z; cases z), ?_, ?_⟩
  · exact { rb := Same.refl _, ro := (fun _ _ e => e), rp := ⟨[], (List.append_nil _).symm⟩, ot := (fun _ _ e => nomatch e), fb := Same.refl _, bh := Same.refl _, fo := (fun _ _ e => nomatch e), pre := ⟨[], rfl⟩, len := rfl, nd := List.nodup_nil, lv := (fun _ h => nomatch h), nb := (fun j a ct h => by simp at h), ce := (fun j a ct h => by simp at h), sl := (fun i r h => by simp at h), tm := (fun _ h => nomatch h), sln := rfl }
  · intro v H' q bx' B' al' ce' e _ _ hr
    rw [hf] at e
    cases e
    exact dq_bool hr
  · intro n cls d H' bx' B' al' ce' e
    rw [hf] at e
    cases e
theorem walkF {l : PySem.W.OpenLaw} {n k : Nat} {q : Program} {loose : List Str} {XP : (Str → Option Value) → Heap → Prop} {YP : World → Heap → Prop} {d : DefRec} {x : Str} {fn : Fn}
    (hn : l.most = some n) (hn2 : n ≤ sizeLine) (hdf : d.params.defaults = []) (hr : Room k callerA) (hf : ∀ ns : List Int, ns.length ≤ n → fn [.s ns] [] = .ok (.dat (.bool true)) [])
    (F : ∀ (w : World) (mg : Str → Option Value) (fa : Addr) (h : Heap), YP w h → h.Ns mainGlobals mg → mg d.name = some (.ref fa) →
      ∃ (K : PySem.W.Frag) (fd : FuncData) (cl : Str → Addr), K.In h ∧ (∀ (s : Shared) (u : Value), BindsTo s fd ⟨[u], []⟩ [(x, u)]) ∧
        ∀ base : Heap, K.In base → base.Ns mainGlobals mg → FnG l.prog w K mg base (L2.CX l.prog w) k fa fd [x] (spF K cl 1 fn)) :
    PySem.W.WalkO q loose XP YP l.row.toRowW d [] (fun f vs => PySem.call f vs) := by
  refine Att.attach_call hn hdf fun w s₀ s₁ mg mb fa o pm cd doc a vs ns G Y ho hd hcd hmg hobj hints hlen hg => ?_
  obtain ⟨K, fd, cl, KX, hb, hF⟩ := F w mg fa _ Y G.T.g hmg
  exact law_done KX G.T.g G.T.b G.T.builtins G.T.nolimit hg hobj hints (Nat.le_trans hlen hn2) hr hF hb fun H hS => law_start hS (hf ns hlen)
end DL
set_option Elab.async false
set_option linter.all false
set_option maxRecDepth 100000
set_option maxHeartbeats 4000000
set_option autoImplicit false
namespace DL
open PySem PySem.Spec PyProof.Rows L2
@[simp] theorem isa_int_int : isaB "int" "int" = true := by decide
@[simp] theorem isa_int_bool : isaB "int" "bool" = false := by decide
@[simp] theorem isa_int_list : isaB "int" "list" = false := by decide
@[simp] theorem isa_int_tuple : isaB "int" "tuple" = false := by decide
@[simp] theorem isa_int_str : isaB "int" "str" = false := by decide
@[simp] theorem isa_bool_int : isaB "bool" "int" = true := by decide
@[simp] theorem isa_bool_bool : isaB "bool" "bool" = true := by decide
@[simp] theorem isa_bool_list : isaB "bool" "list" = false := by decide
@[simp] theorem isa_bool_tuple : isaB "bool" "tuple" = false := by decide
@[simp] theorem isa_bool_str : isaB "bool" "str" = false := by decide
@[simp] theorem isa_list_int : isaB "list" "int" = false := by decide
@[simp] theorem isa_list_bool : isaB "list" "bool" = false := by decide
@[simp] theorem isa_list_list : isaB "list" "list" = true := by decide
@[simp] theorem isa_list_tuple : isaB "list" "tuple" = false := by decide
@[simp] theorem isa_list_str : isaB "list" "str" = false := by decide
@[simp] theorem isa_tuple_int : isaB "tuple" "int" = false := by decide
@[simp] theorem isa_tuple_bool : isaB "tuple" "bool" = false := by decide
@[simp] theorem isa_tuple_list : isaB "tuple" "list" = false := by decide
@[simp] theorem isa_tuple_tuple : isaB "tuple" "tuple" = true := by decide
@[simp] theorem isa_tuple_str : isaB "tuple" "str" = false := by decide
@[simp] theorem isa_str_int : isaB "str" "int" = false := by decide
@[simp] theorem isa_str_bool : isaB "str" "bool" = false := by decide
@[simp] theorem isa_str_list : isaB "str" "list" = false := by decide
@[simp] theorem isa_str_tuple : isaB "str" "tuple" = false := by decide
@[simp] theorem isa_str_str : isaB "str" "str" = true := by decide
@[simp] theorem isa_NoneType_int : isaB "NoneType" "int" = false := by decide
@[simp] theorem isa_NoneType_bool : isaB "NoneType" "bool" = false := by decide
@[simp] theorem isa_NoneType_list : isaB "NoneType" "list" = false := by decide
@[simp] theorem isa_NoneType_tuple : isaB "NoneType" "tuple" = false := by decide
@[simp] theorem isa_NoneType_str : isaB "NoneType" "str" = false := by decide
def opIsB : Op2 := fun _ r1 r2 => match r1, r2 with
  | .d (.bool a), .d (.bool b) => some (.d (.bool (decide (a = b))))
  | .d .none, .d (.bool _) => some (.d (.bool false))
  | .d (.int _), .d (.bool _) => some (.d (.bool false))
  | _, _ => none
@[simp] theorem opIsB_b (g : G) (a b : Bool) : opIsB g (.d (.bool a)) (.d (.bool b)) = some (.d (.bool (decide (a = b)))) := id rfl
@[simp] theorem opIsB_n (g : G) (b : Bool) : opIsB g (.d .none) (.d (.bool b)) = some (.d (.bool false)) := id rfl
@[simp] theorem opIsB_i (g : G) (i : Int) (b : Bool) : opIsB g (.d (.int i)) (.d (.bool b)) = some (.d (.bool false)) := id rfl
end DL
set_option Elab.async false
set_option linter.all false
set_option maxRecDepth 100000
set_option autoImplicit false
namespace DL
open PySem PySem.W PySem.Spec PySem.Calls PyProof.Rows
end DL
set_option Elab.async false
set_option linter.all false
set_option maxRecDepth 100000
set_option maxHeartbeats 2000000
set_option autoImplicit false
namespace DL
open PySem PySem.Spec PyProof.Rows L2
inductive NmL (X : Cx) : List Expr → List Value → Prop
  | nil : NmL X [] []
  | cons {x : Str} {c : Value} {np : Pos} {es : List Expr} {cs : List Value} (hc : Names X x c) (r : NmL X es cs) : NmL X (.Name x np :: es) (c :: cs)
theorem NmL.len {X : Cx} {es : List Expr} {cs : List Value} (h : NmL X es cs) : cs.length = es.length := by
  induction h with
  | nil => rfl
  | cons _ _ ih => simp [ih]
end DL
set_option Elab.async false
set_option linter.all false
set_option maxRecDepth 100000
set_option maxHeartbeats 4000000
set_option autoImplicit false
namespace DL
open PySem PySem.Spec PyProof.Rows L2 PySem.W
end DL
set_option Elab.async false
set_option linter.all false
set_option maxRecDepth 100000
set_option maxHeartbeats 4000000
set_option autoImplicit false
namespace DL
open PySem PySem.Spec PyProof.Rows L2
end DL
set_option Elab.async false
set_option linter.all false
set_option maxRecDepth 100000
set_option maxHeartbeats 4000000
set_option autoImplicit false
namespace DL
open PySem PySem.Spec PyProof.Rows L2
section
variable {X : Cx} {pins : List (Addr × Obj)} {σ : L2.St} {H : Hp} {s : Shared}
mutual
theorem dp_reads (I : Inv X pins σ H s) : ∀ {v : V} {x : PyData} {u : Value}, Dp X.K H v x → RelV v u → ∃ as, Reads s.heap u x as ∧ x.hasDict = false
  | _, _, _, .non, r => by cases r; exact ⟨[], .none, by simp only [PyData.hasDict]⟩
  | _, _, _, .bl b, r => by cases r; exact ⟨[], .bool b, by simp only [PyData.hasDict]⟩
  | _, _, _, .int i, r => by obtain ⟨t, rfl⟩ := r; exact ⟨[], .int i t, by simp only [PyData.hasDict]⟩
  | _, _, _, .str x, r => by obtain ⟨t, rfl⟩ := r; exact ⟨[], .str x t, by simp only [PyData.hasDict]⟩
  | _, _, _, .lst h a, r => by
    cases r
    obtain ⟨its, r2, ⟨o, n, e, hc, _, hd⟩, _⟩ := I.list h
    obtain ⟨as, q, hq⟩ := dp_readsAll I a r2
    exact ⟨_, .list e hc hd (by simpa using q), by simp only [PyData.hasDict]; exact hq⟩
  | _, _, _, .tup h a, r => by
    cases r
    obtain ⟨its, r2, ⟨o, e, hc, n, hd⟩, _⟩ := I.tuple h
    obtain ⟨as, q, hq⟩ := dp_readsAll I a r2
    exact ⟨_, .tuple e hc hd (by simpa using q), by simp only [PyData.hasDict]; exact hq⟩
theorem dp_readsAll (I : Inv X pins σ H s) : ∀ {vs : List V} {xs : List PyData} {us : List Value}, DpAll X.K H vs xs → Vals vs us → ∃ as, ReadsAll s.heap us xs as ∧ PyData.hasDictAll xs = false
  | _, _, _, .nil, .nil => ⟨[], .nil, by simp only [PyData.hasDictAll]⟩
  | _, _, _, .cons a b, .cons r q => by
    obtain ⟨as, h1, h2⟩ := dp_reads I a r
    obtain ⟨bs, h3, h4⟩ := dp_readsAll I b q
    exact ⟨as ++ bs, .cons h1 h3, by simp only [PyData.hasDictAll, h2, h4, Bool.or_self]⟩
end
end
def okSh (x : PyData) : Bool := x.showable && decide (x.shown.length ≤ 4000) && decide (x.depth ≤ 60)
/-- what an f-string can show -/
def showsD : PyData → Bool
  | .int i => decide (i.natAbs.log2 < 1920)
  | .tuple [.int i, .int j] => decide (i.natAbs.log2 < 1920 ∧ j.natAbs.log2 < 1920)
  | .list ds => okSh (.list ds)
  | _ => false
def sRaise1 (cls f : Str) (fs : FAr) : FS := fun g => (fs g).bind fun rs g1 => match rs with
  | [.d x] => if showsD x then .ex ⟨cls, [(f, x)]⟩ g1 else .no
  | _ => .no
def sRaise0 (cls : Str) : FS := fun g => .ex ⟨cls, []⟩ g
end DL
set_option Elab.async false
set_option linter.all false
set_option maxRecDepth 100000
set_option maxHeartbeats 4000000
set_option autoImplicit false
namespace DL
open PySem PySem.Spec PyProof.Rows L2
def sTry (hit : Str → Option Bool) (i j : Nat) (u : FS) : FS := fun g => match u g with
  | .ex n g1 => match hit n.cls with
    | some true => if i < g1.sl.length then .ok .nx ⟨(g1.sl.set j (some (.x n))).set i none, g1.ce⟩ else .no
    | some false => .ex n g1
    | none => .no
  | o => o
end DL
set_option Elab.async false
set_option linter.all false
set_option maxRecDepth 100000
set_option maxHeartbeats 4000000
set_option autoImplicit false
namespace DL
open PySem PySem.Spec PyProof.Rows L2
def fAttr (cs : List Str) (f : Str) (e : FE) : FE := fun g => (e g).bind fun r g1 => match r with
  | .x n => if cs.contains n.cls then match n.fld.lookup f with
      | some x => .ok (.d x) g1
      | none => .no else .no
  | _ => .no
end DL
set_option Elab.async false
set_option linter.all false
set_option maxRecDepth 100000
set_option maxHeartbeats 4000000
set_option autoImplicit false
namespace DL
open PySem PySem.Spec PySem.Calls PyProof.Rows PySem.W
end DL
set_option Elab.async false
set_option linter.all false
set_option maxRecDepth 100000
set_option maxHeartbeats 4000000
set_option autoImplicit false
namespace DL
open PySem PySem.Spec PyProof.Rows L2
def fIsX (t : Str → Option Bool) (t0 : Option Bool) (e : FE) : FE := fun g => (e g).bind fun r g1 => match r with
  | .x n => ofO ((t n.cls).map fun b => .d (.bool b)) g1
  | .d .none => ofO (t0.map fun b => .d (.bool b)) g1
  | _ => .no
end DL
set_option Elab.async false
set_option linter.all false
set_option maxRecDepth 100000
set_option maxHeartbeats 4000000
set_option autoImplicit false
namespace DL
open PySem PySem.Spec PyProof.Rows L2
end DL
set_option Elab.async false
set_option linter.all false
set_option maxRecDepth 100000
set_option maxHeartbeats 4000000
set_option autoImplicit false
namespace DL
open PySem PySem.Spec PyProof.Rows L2
abbrev Fx := PySem.W.Frag → Bool
def obsX (fx : List Fx) (fa : List He.Fa) (fn : List He.DefD) (K : PySem.W.Frag) : He.AlD := ((fx.all fun f => f K) && (He.obsD fa fn K).1, (He.obsD fa fn K).2)
def SaysX (fx : List Fx) (fa : List He.Fa) (fn : List He.DefD) (K : PySem.W.Frag) : Prop := obsX fx fa fn K = He.valD fn
def obsXG (n : Nat) (fx : List Fx) (fa : List He.Fa) (fn : List He.DefD) (g : Addr → Option Obj) : He.AlD := obsX fx fa fn (He.frG g (He.asD g n))
def hookX (n : Nat) (fx : List Fx) (fa : List He.Fa) (fn : List He.DefD) : PySem.W.Hook where
  α := He.AlD
  obs := fun s => obsXG n fx fa fn s.heap.get?
  val := fun _ => He.valD fn
  says := fun _ h => ∃ K : PySem.W.Frag, K.In h ∧ SaysX fx fa fn K
  of := fun _ _ e => ⟨_, He.frG_in, e⟩
  keeps := fun _ _ _ ⟨K, hK, c⟩ k => ⟨K, PySem.W.Frag.In.keeps hK k, c⟩
theorem obsXG_eq {n : Nat} {fx : List Fx} {fa : List He.Fa} {fn : List He.DefD} {g : Addr → Option Obj} {s : Shared} (h : ∀ a, g a = s.heap.get? a) : obsXG n fx fa fn g = (hookX n fx fa fn).obs s := by
  have e : g = s.heap.get? := funext h
  rw [e] <;> rfl
section
variable {fx : List Fx} {fa : List He.Fa} {fn : List He.DefD} {K : PySem.W.Frag}
theorem SaysX.old (c : SaysX fx fa fn K) : He.SaysD fa fn K := by
  have c1 : ((fx.all fun f => f K) && (He.obsD fa fn K).1) = true := congrArg (fun z : He.AlD => z.1) (show obsX fx fa fn K = He.valD fn from c)
  have c2 : (obsX fx fa fn K).2 = (He.valD fn).2 := congrArg (fun z : He.AlD => z.2) (show obsX fx fa fn K = He.valD fn from c)
  have c3 : (He.obsD fa fn K).1 = true := (Bool.and_eq_true_iff.mp c1).2
  exact Prod.ext c3 c2
theorem SaysX.own (c : SaysX fx fa fn K) (i : Nat) {f : Fx} (h : fx[i]? = some f := by rfl) : f K = true := by
  have c1 : ((fx.all fun f => f K) && (He.obsD fa fn K).1) = true := congrArg (fun z : He.AlD => z.1) (show obsX fx fa fn K = He.valD fn from c)
  exact List.all_eq_true.mp (Bool.and_eq_true_iff.mp c1).1 f (List.mem_of_getElem? h)
end
end DL
set_option Elab.async false
set_option linter.all false
set_option maxRecDepth 100000
set_option maxHeartbeats 4000000
set_option autoImplicit false
namespace DL
open PySem PySem.Spec PyProof.Rows L2
/-- classes by their names -/
inductive NmV (X : Cx) : List Expr → List V → List Value → Prop
  | nil : NmV X [] [] []
  | cons {x : Str} {cV : V} {c : Value} {np : Pos} {es : List Expr} {vs : List V} {cs : List Value} (k : ClsV cV c) (hc : Names X x c) (r : NmV X es vs cs) : NmV X (.Name x np :: es) (cV :: vs) (c :: cs)
theorem NmV.cls {X : Cx} {es : List Expr} {vs : List V} {cs : List Value} (h : NmV X es vs cs) : Paired ClsV vs cs := by
  induction h with
  | nil => exact .nil
  | cons k _ _ ih => exact .cons k ih
end DL
set_option Elab.async false
set_option linter.all false
set_option maxRecDepth 100000
set_option maxHeartbeats 4000000
set_option autoImplicit false
namespace DL
open PySem PySem.Spec PyProof.Rows L2
def permI {α : Type} (idx : List Nat) (l : List α) : List α := idx.filterMap fun i => l[i]?
theorem permI_paired {α β : Type} {F : α → β → Prop} {xs : List α} {ys : List β} (h : Paired F xs ys) : ∀ idx : List Nat, Paired F (permI idx xs) (permI idx ys)
  | [] => .nil
  | i :: idx => by
    have ih := permI_paired h idx
    unfold permI at ih ⊢
    rw [List.filterMap_cons, List.filterMap_cons]
    have gen : ∀ {xs : List α} {ys : List β}, Paired F xs ys → ∀ i : Nat, (xs[i]? = none ∧ ys[i]? = none) ∨ ∃ a b, xs[i]? = some a ∧ ys[i]? = some b ∧ F a b := by
      intro xs ys hp
      induction hp with
      | nil => intro i; exact .inl ⟨rfl, rfl⟩
      | cons a b ih =>
        intro i
        cases i with
        | zero => exact .inr ⟨_, _, rfl, rfl, a⟩
        | succ i => exact ih i
    rcases gen h i with ⟨e1, e2⟩ | ⟨a, b, e1, e2, hab⟩
    · rw [e1, e2]; exact ih
    · rw [e1, e2]; exact .cons hab ih
def gK (idx : List Nat) {α : Type} : List α → List α → List α
  | [], ws => permI idx ws
  | _ :: _, _ => []
theorem Fun.kbindsN {K : PySem.W.Frag} {x qual : Str} {st : Stmt} {f : Addr} {fd : FuncData} {ps ks : List Str} (idx : List Nat) (F : Fun K x qual st f fd) (hp : ps ≠ [])
    (h : ∀ (kV doc pm : Value) (an : Option Addr) (cdv ct : Value) (ws : List Value), (permI idx ws).length = ps.length → bindArgs (PySem.W.fnOf x qual (defArgs st) (defBody st) (defScope st) .none kV doc pm an cdv ct) ⟨[], ks.zip ws⟩ = pure (ps.zip (permI idx ws))) : KBinds K fd ps ks (gK idx) (gK idx) := by
  obtain ⟨oc, od, kV, doc, pm, an, cdv, ct, osl, rfl, lk, hcd⟩ := F.ex
  refine ⟨fun s us ws _ hl => ?_, fun {vs us zs ws} r rz => ?_⟩
  · cases us with
    | nil => exact .of_eq (h kV doc pm an cdv ct ws hl)
    | cons u us => exact absurd (List.length_eq_zero_iff.mp hl.symm) hp
  · cases r with
    | nil => exact permI_paired rz idx
    | cons _ _ => exact .nil
abbrev PFK (ρ : Root) (X : Cx) (dx : DX) (kws : List Keyword) (f : FAr) : Prop := PK X kws (liftA ⟨X.K, ρ⟩ (rd dx f))
def fPerm (idx : List Nat) (fs : FAr) : FAr := fun g => (fs g).bind fun rs g1 => .ok (permI idx rs) g1
section
variable {ρ : Root} {X : Cx} {dx : DX} {e : Expr} {kws : List Keyword} {kpos p pos : Pos} {nm : Option Str} {fe : FE} {fs : FAr}
theorem pk_imp {t t' : TA} (h : PK X kws t) (i : ∀ s H Q, t' s H Q → t s H Q) : PK X kws t' := ⟨fun p pins s σ H Q I q => h.run p pins s σ H Q I (i σ H Q q)⟩
theorem qk_nil : PFK ρ X dx [] fNil := pk_imp pk_nil fun s H Q ⟨F, g, tm, k, B, al, S, hk, q⟩ => q [] H [] g B al hk S .nil
theorem qk_cons (ha : PF ρ X dx e fe) (hr : PFK ρ X dx kws fs) : PFK ρ X dx (⟨nm, e, kpos⟩ :: kws) (fCons fe fs) :=
  pk_imp (pk_cons ha hr) fun s H Q ⟨F, g, tm, k, B, al, S, hk, q⟩ => ⟨F, g, tm, _, B, al, S, go_bind.mp hk, fun x H1 r1 g1 B1 al1 hk1 S1 => ⟨F, g1, (x, r1) :: tm, _, B1, al1, S1, go_bind.mp hk1, fun vs H2 rs g2 B2 al2 hk2 S2 pr =>
    q (x :: vs) H2 (r1 :: rs) g2 B2 al2 hk2 (S2.temps fun p hp => List.mem_cons_of_mem _ hp) (.cons (S2.tm (x, r1) List.mem_cons_self) pr)⟩⟩
def tCallK0 (sp : Sp) (idx : List Nat) (E : L2.St → XK) (tk : TA) : TE := fun σ H Q => tk σ H fun zs H2 => sp (permI idx zs) H2 Q (E σ)
theorem pe_callK0 {k : Nat} {f : Addr} {fd : FuncData} {ps ks : List Str} {sp : Sp} {E : L2.St → XK} {x : Str} {tk : TA} {idx : List Nat} (F : FnG X.prog X.w X.K X.mg X.base (L2.CX X.prog X.w) k f fd ps sp) (hr : Calm k X.A) (hg : Gl X x) (hm : X.mg x = some (.ref f)) (hk : PySem.W.keepIn X.K (.ref f) = true) (hb : KBinds X.K fd ps ks (gK idx) (gK idx)) (hx : ∀ σ, PassesAt (L2.CX X.prog X.w) X σ (E σ))
    (hkw : PK X kws tk) (hall : (backToKw pos (keywordEach kws X.env)).all (·.1.isSome) = true := by rfl) (hks : (backToKw pos (keywordEach kws X.env)).filterMap (·.1) = ks := by rfl)
    (hdb : (x == ("__debug__" : Str)) = false := by decide) (hpl : ((backTo pos (starEach [] X.env)).any (·.1) || (backToKw pos (keywordEach kws X.env)).any (·.1.isNone)) = false := by rfl) :
    PE X (.Call (.Name x p) [] kws pos) (tCallK0 sp idx E tk) := by
  refine ⟨fun pins s σ H Q I h => ?_⟩
  refine wpAny_Call_Name_kw (ld_glob I hg hm ?_ hdb)
  refine PySem.W.callWith_KW0 (h₀ := X.base) I.ok.mod.kin hk hall (thn (hkw.run pos pins s σ H _ I h) fun ws s2 ⟨zs, H2, I2, rz, q2⟩ => ⟨I2.kIn, ?_⟩) hpl
  rw [hks]
  have r2 : Vals (permI idx zs) (permI idx ws) := permI_paired rz idx
  have hl : (gK idx ([] : List Value) ws).length = ps.length := by
    show (permI idx ws).length = _
    rw [← r2.length]; exact F.count _ _ _ _ q2
  exact runs_G (as := ⟨[], ks.zip ws⟩) F hr I2 (fun v s' q => hx σ pins H2 s2 v s' I2 q) (hb.to s2 [] ws I2.kIn hl) r2 q2
theorem q_callK (own : Bool) {k : Nat} {f : Addr} {fd : FuncData} {ps ks : List Str} {x : Str} {fn : Fn} (idx : List Nat) (tk : Takes X (liftX ⟨X.K, ρ⟩ dx)) (G : FnG X.prog X.w X.K X.mg X.base (L2.CX X.prog X.w) k f fd ps (spF X.K ρ.cl ps.length fn)) (hr : Calm k X.A) (hg : Gl X x) (hm : X.mg x = some (.ref f)) (hk : PySem.W.keepIn X.K (.ref f) = true) (hb : KBinds X.K fd ps ks (gK idx) (gK idx))
    (ha : PFK ρ X dx kws fs) (hn : nArgs ps.length fs) (hi : ∀ rs : List R, rs.length = ps.length → (permI idx rs).length = ps.length)
    (hall : (backToKw pos (keywordEach kws X.env)).all (·.1.isSome) = true := by rfl) (hks : (backToKw pos (keywordEach kws X.env)).filterMap (·.1) = ks := by rfl)
    (hdb : (x == ("__debug__" : Str)) = false := by decide) (hpl : ((backTo pos (starEach [] X.env)).any (·.1) || (backToKw pos (keywordEach kws X.env)).any (·.1.isNone)) = false := by rfl) : PF ρ X dx (.Call (.Name x p) [] kws pos) (fCall fn own (fPerm idx fs)) :=
  pe_imp (pe_callK0 G hr hg hm hk hb (passAt tk) ha hall hks hdb hpl) fun s H Q ⟨F, g, tm, kk, B, al, S, hk, q⟩ => by
    have hk : ((fs g).bind fun rs g1 => (Out.ok (permI idx rs) g1 : Out (List R))).bind (fun rs g1 => callF fn own rs g1) |>.go dx kk := hk
    have z := ref_callF (K := ⟨X.K, ρ⟩) (dx := dx) (fs := fPerm idx fs) (fn := fn) (own := own) (n := ps.length) s H Q ⟨F, g, tm, kk, B, al, S, (by
      show (fPerm idx fs g).go dx _
      unfold fPerm
      cases h1 : fs g with
      | no => rw [h1] at hk; exact hk
      | ex n g => rw [h1] at hk; exact hk
      | ok rs g1 => rw [h1] at hk; exact ⟨hi rs (hn g rs g1 h1), hk⟩), q⟩
    obtain ⟨F', g', tm', k', B', al', S', hk', q'⟩ := z
    refine ⟨F', g', tm', _, B', al', S', go_bind.mp hk', fun vs H1 rs g1 B1 al1 hk1 S1 pr => ?_⟩
    exact q' (permI idx vs) H1 (permI idx rs) g1 B1 al1 hk1 S1 (permI_paired pr idx)
end
end DL
set_option Elab.async false
set_option linter.all false
set_option maxRecDepth 100000
set_option maxHeartbeats 4000000
set_option autoImplicit false
namespace DL
open PySem PySem.Spec PyProof.Rows L2
end DL
set_option Elab.async false
set_option linter.all false
set_option maxRecDepth 100000
set_option maxHeartbeats 4000000
set_option autoImplicit false
namespace DL
open PySem PySem.Spec PyProof.Rows L2
def catchK (o : Option Bool) (i j : Nat) (n : Xn) (g : G) : Out Fl := match o with
  | some true => if i < g.sl.length then .ok .nx ⟨(g.sl.set j (some (.x n))).set i none, g.ce⟩ else .no
  | some false => .ex n g
  | none => .no
def tryK (hit : Str → Option Bool) (i j : Nat) (o : Out Fl) : Out Fl := match o with
  | .ex n g => catchK (hit n.cls) i j n g
  | o => o
theorem sTry_ap (hit : Str → Option Bool) (i j : Nat) (u : FS) (g : G) : sTry hit i j u g = tryK hit i j (u g) := by
  unfold sTry tryK
  cases u g with
  | ok a g => rfl
  | no => rfl
  | ex n g => exact id rfl
theorem tryK_ok (hit : Str → Option Bool) (i j : Nat) (f : Fl) (g : G) : tryK hit i j (.ok f g) = .ok f g := id rfl
theorem tryK_ex (hit : Str → Option Bool) (i j : Nat) (c : Str) (fl : List (Str × PyData)) (g : G) : tryK hit i j (.ex ⟨c, fl⟩ g) = catchK (hit c) i j ⟨c, fl⟩ g := id rfl
theorem catchK_true (i j : Nat) (n : Xn) (sl : List (Option R)) (ce : List Ct) : catchK (some true) i j n ⟨sl, ce⟩ = if i < sl.length then .ok .nx ⟨(sl.set j (some (.x n))).set i none, ce⟩ else .no := id rfl
theorem catchK_false (i j : Nat) (n : Xn) (g : G) : catchK (some false) i j n g = .ex n g := id rfl
def isxK (t : Str → Option Bool) (t0 : Option Bool) : R → G → Out R := fun r g1 => match r with
  | .x n => ofO ((t n.cls).map fun b => .d (.bool b)) g1
  | .d .none => ofO (t0.map fun b => .d (.bool b)) g1
  | _ => .no
theorem fIsX_ap (t : Str → Option Bool) (t0 : Option Bool) (e : FE) (g : G) : fIsX t t0 e g = (e g).bind (isxK t t0) := id rfl
theorem isxK_x (t : Str → Option Bool) (t0 : Option Bool) (c : Str) (fl : List (Str × PyData)) (g : G) : isxK t t0 (.x ⟨c, fl⟩) g = ofO ((t c).map fun b => .d (.bool b)) g := id rfl
theorem isxK_n (t : Str → Option Bool) (t0 : Option Bool) (g : G) : isxK t t0 (.d .none) g = ofO (t0.map fun b => .d (.bool b)) g := id rfl
def attrK (cs : List Str) (f : Str) : R → G → Out R := fun r g1 => match r with
  | .x n => if cs.contains n.cls then match n.fld.lookup f with
      | some x => .ok (.d x) g1
      | none => .no else .no
  | _ => .no
theorem fAttr_ap (cs : List Str) (f : Str) (e : FE) (g : G) : fAttr cs f e g = (e g).bind (attrK cs f) := id rfl
theorem attrK_x (cs : List Str) (f c : Str) (x : PyData) (g : G) : attrK cs f (.x ⟨c, [(f, x)]⟩) g = if cs.contains c = true then .ok (.d x) g else .no := by
  unfold attrK
  simp [List.lookup]
def raiseK (cls f : Str) : List R → G → Out Fl := fun rs g1 => match rs with
  | [.d x] => if showsD x then .ex ⟨cls, [(f, x)]⟩ g1 else .no
  | _ => .no
theorem sRaise1_ap (cls f : Str) (fs : FAr) (g : G) : sRaise1 cls f fs g = (fs g).bind (raiseK cls f) := id rfl
theorem raiseK_d (cls f : Str) (x : PyData) (g : G) : raiseK cls f [.d x] g = if showsD x = true then .ex ⟨cls, [(f, x)]⟩ g else .no := id rfl
theorem sRaise0_ap (cls : Str) (g : G) : sRaise0 cls g = .ex ⟨cls, []⟩ g := id rfl
def optCons {α : Type} (o : Option α) (l : List α) : List α := match o with
  | some a => a :: l
  | none => l
theorem permI_nil {α : Type} (l : List α) : permI [] l = [] := id rfl
theorem permI_cons {α : Type} (i : Nat) (idx : List Nat) (l : List α) : permI (i :: idx) l = optCons l[i]? (permI idx l) := by
  unfold permI optCons
  rw [List.filterMap_cons]
  cases l[i]? <;> rfl
theorem optCons_some {α : Type} (a : α) (l : List α) : optCons (some a) l = a :: l := id rfl
theorem fPerm_ap (idx : List Nat) (fs : FAr) (g : G) : fPerm idx fs g = (fs g).bind fun rs g1 => .ok (permI idx rs) g1 := id rfl
end DL
set_option Elab.async false
set_option linter.all false
set_option maxRecDepth 100000
set_option maxHeartbeats 4000000
set_option autoImplicit false
namespace DL
open PySem PySem.Spec PyProof.Rows L2
def setAll {α : Type} : List (Option α) → List Nat → List α → List (Option α)
  | sl, i :: is, r :: rs => setAll (sl.set i (some r)) is rs
  | sl, _, _ => sl
def sPk (is : List Nat) (fs : FAr) : FS := fun g => (fs g).bind fun rs g1 => if rs.length = is.length then .ok .nx ⟨setAll g1.sl is rs, g1.ce⟩ else .no
theorem sPk_ap (is : List Nat) (fs : FAr) (g : G) : sPk is fs g = (fs g).bind fun rs g1 => if rs.length = is.length then .ok .nx ⟨setAll g1.sl is rs, g1.ce⟩ else .no := id rfl
theorem setAll_cons {α : Type} (sl : List (Option α)) (i : Nat) (is : List Nat) (r : α) (rs : List α) : setAll sl (i :: is) (r :: rs) = setAll (sl.set i (some r)) is rs := id rfl
theorem setAll_nil {α : Type} (sl : List (Option α)) (rs : List α) : setAll sl [] rs = sl := by cases rs <;> rfl
def gsK : List Nat → TGs
  | [] => gNil
  | i :: is => gCons (gName i) (gsK is)
theorem gsK_run : ∀ {is : List Nat} {vs : List V} {σ : L2.St} {H : Hp} {Q : L2.St → Hp → Prop}, vs.length = is.length → Q (setAll σ is vs) H → gsK is vs σ H Q
  | [], [], _, _, _, _, q => ⟨rfl, q⟩
  | [], _ :: _, _, _, _, h, _ => by simp at h
  | _ :: _, [], _, _, _, h, _ => by simp at h
  | i :: is, v :: vs, σ, H, Q, h, q => ⟨v, vs, rfl, gsK_run (by simpa using h) q⟩
theorem Stt.storeAll {K : KR} {F : Fm} {tm : List (V × R)} {H B : Hp} {al : List Addr} : ∀ {is : List Nat} {vs : List V} {rs : List R} {g : G} {s : L2.St}, Paired (RvOk K B al) vs rs → Stt K F g tm s H B al → Stt K F ⟨setAll g.sl is rs, g.ce⟩ tm (setAll s is vs) H B al
  | [], vs, rs, g, s, _, S => by rw [setAll_nil, setAll_nil]; exact S
  | i :: is, _, _, g, s, .nil, S => S
  | i :: is, v :: vs, r :: rs, g, s, .cons a b, S => Stt.storeAll (is := is) (g := ⟨g.sl.set i (some r), g.ce⟩) b (S.store a)
section
variable {ρ : Root} {X : Cx} {dx : DX} {a b e o : Expr} {es as : List Expr} {pos : Pos} {f f1 f2 : FE} {fs : FAr}
theorem qs_parN {is : List Nat} {kt k2 : Nat} {pt pt2 : Pos} (hc : X.calm = true) (hgs : PGs X es (gsK is)) (hl : is.length ≤ 1000) (ha : PFA ρ X dx as fs)
    (hn : (assignEach es X.env).length = is.length := by rfl) (hst : (assignEach es X.env).findIdx? (·.1) = none := by rfl)
    (hs : swapsWithSole [.Tuple es kt pt] (.Tuple as k2 pt2) pos.line X.env = pure false := by rfl) (hw : swappedStores [.Tuple es kt pt] (.Tuple as k2 pt2) X.env = pure none := by rfl)
    (h1 : (assignEach [.Tuple es kt pt] X.env).map (·.2) = [assign (.Tuple es kt pt) X.env] := by rfl) : PFS ρ X dx (.Assign [.Tuple es kt pt] (.Tuple as k2 pt2) pos) (sPk is fs) := by
  refine ps_imp (ps_asg (pe_tup ha) (pg_tup hc hgs hn hst) hs hw h1) fun D s H h => ?_
  obtain ⟨F, g, tm, E, B, al, S, hd, ok⟩ := h
  refine ⟨F, g, tm, _, B, al, S, go_bind.mp hd, fun vs H1 rs g1 B1 al1 hk S1 pr => ?_⟩
  have hk : (if rs.length = is.length then (.ok .nx ⟨setAll g1.sl is rs, g1.ce⟩ : Out Fl) else .no).go dx (flK E) := hk
  by_cases hl2 : rs.length = is.length
  · rw [if_pos hl2] at hk
    have hv : vs.length = is.length := by rw [pr.length]; exact hl2
    refine ⟨by rw [sizeLine_eq]; omega, fun p hp => ⟨p, vs, rfl, .inl (.inl upd_same), hv, gsK_run hv ?_⟩⟩
    have nB : B1 p = none := S1.bh.free hp
    have S2 := S1.grow (o := .tup vs) hp
    have pr2 : Paired (RvOk ⟨X.K, ρ⟩ (upd B1 p (.tup vs)) al1) vs rs := paired_imp (fun v r h => rv_mono0 (same_new nB) h) pr
    exact ok.nx _ _ _ _ _ hk (Stt.storeAll pr2 S2)
  · rw [if_neg hl2] at hk
    exact hk.elim
def opRep : Op2 := fun g r1 r2 => match r1, r2 with
  | .d (.list ds), .d (.int k) => if ds.length * k.toNat ≤ 100000 ∧ -(2 ^ 62) ≤ k ∧ k < 2 ^ 62 then some (.d (.list (List.replicate k.toNat ds).flatten)) else none
  | _, _ => none
theorem opRep_ap (g : G) (ds : List PyData) (k : Int) : opRep g (.d (.list ds)) (.d (.int k)) = if ds.length * k.toNat ≤ 100000 ∧ -(2 ^ 62) ≤ k ∧ k < 2 ^ 62 then some (.d (.list (List.replicate k.toNat ds).flatten)) else none := id rfl
def rgOk (i j : Int) : Bool := decide (-(2 ^ 62) ≤ i ∧ i < 2 ^ 62 ∧ -(2 ^ 62) ≤ j ∧ j < 2 ^ 62 ∧ (j - i).toNat ≤ 1000000)
def rgK (t : Bool) (i j : Int) (g : G) : Out R := if rgOk i j then .ok (.d (if t then .tuple (rng i (j - i).toNat) else .list (rng i (j - i).toNat))) g else .no
def fRg1 (t : Bool) (fa : FE) : FE := fun g => (fa g).bind fun r g1 => match r with
  | .d (.int j) => rgK t 0 j g1
  | _ => .no
def fRg2 (t : Bool) (fa fb : FE) : FE := fun g => (fa g).bind fun r1 g1 => (fb g1).bind fun r2 g2 => match r1, r2 with
  | .d (.int i), .d (.int j) => rgK t i j g2
  | _, _ => .no
def fRgO1 (fa : FE) : FE := fun g => (fa g).bind fun r g1 => match r with
  | .d (.int j) => if rgOk 0 j then newO (.lst (rng 0 (j - 0).toNat)) g1 else .no
  | _ => .no
theorem rg_ok {i j : Int} (h : rgOk i j = true) : RgOk i j := by
  have := of_decide_eq_true h
  exact ⟨this.1, this.2.1, this.2.2.1, this.2.2.2.1, by omega⟩
theorem dq_rg {B : Hp} (i j : Int) : DqAll B (rgV i j) (rng i (j - i).toNat) := by
  unfold rgV rng
  generalize List.range (j - i).toNat = l
  induction l with
  | nil => exact .nil
  | cons n l ih => exact .cons (.int _) ih
theorem fRg1_ap (t : Bool) (fa : FE) (g : G) : fRg1 t fa g = (fa g).bind fun r g1 => match r with
  | .d (.int j) => rgK t 0 j g1
  | _ => .no := id rfl
section
variable {p1 p2 p3 : Pos}
theorem q_lrg1 (hc : X.calm = true) (hg : Gl X "list") (hm : X.mg "list" = none) (hgr : Gl X "range") (hmr : X.mg "range" = none) (ha : PF ρ X dx a f) (na : starEach [a] X.env = (false, eval a X.env) :: starEach [] X.env := by rfl)
    (nb : starEach [.Call (.Name "range" p1) [a] [] p2] X.env = (false, eval (.Call (.Name "range" p1) [a] [] p2) X.env) :: starEach [] X.env := by rfl) : PF ρ X dx (.Call (.Name "list" p3) [.Call (.Name "range" p1) [a] [] p2] [] pos) (fRg1 false f) := by
  refine pe_imp (pe_listRg hc hg hm (prg_1 hgr hmr ha na) nb) fun s H Q h => ?_
  obtain ⟨F, g, tm, k, B, al, S, hd, q⟩ := h
  refine ⟨F, g, tm, _, B, al, S, go_bind.mp hd, fun v H1 r g1 B1 al1 hk S1 => ?_⟩
  cases r with
  | d y =>
    cases y with
    | int j =>
      have hk : (rgK false 0 j g1).go dx k := hk
      unfold rgK at hk
      by_cases ho : rgOk 0 j = true
      · rw [if_pos ho] at hk
        have hv := dq_int (S1.top rfl)
        have hv : v = .int j := hv
        exact ⟨j, hv, rg_ok ho, fun p hp => new_l (S1.temps (tm' := tm) fun p hp => List.mem_cons_of_mem _ hp) hp (dq_rg 0 j) hk fun v H' r g' B' al' hr S' rv => q v H' r g' B' al' hr (S'.push rv)⟩
      · rw [if_neg ho] at hk; exact hk.elim
    | _ => exact hk.elim
  | _ => exact hk.elim
theorem q_trg1 (hc : X.calm = true) (hg : Gl X "tuple") (hm : X.mg "tuple" = none) (hgr : Gl X "range") (hmr : X.mg "range" = none) (ha : PF ρ X dx a f) (na : starEach [a] X.env = (false, eval a X.env) :: starEach [] X.env := by rfl)
    (nb : starEach [.Call (.Name "range" p1) [a] [] p2] X.env = (false, eval (.Call (.Name "range" p1) [a] [] p2) X.env) :: starEach [] X.env := by rfl) : PF ρ X dx (.Call (.Name "tuple" p3) [.Call (.Name "range" p1) [a] [] p2] [] pos) (fRg1 true f) := by
  refine pe_imp (pe_tupRg hc hg hm (prg_1 hgr hmr ha na) nb) fun s H Q h => ?_
  obtain ⟨F, g, tm, k, B, al, S, hd, q⟩ := h
  refine ⟨F, g, tm, _, B, al, S, go_bind.mp hd, fun v H1 r g1 B1 al1 hk S1 => ?_⟩
  cases r with
  | d y =>
    cases y with
    | int j =>
      have hk : (rgK true 0 j g1).go dx k := hk
      unfold rgK at hk
      by_cases ho : rgOk 0 j = true
      · rw [if_pos ho] at hk
        have hv := dq_int (S1.top rfl)
        have hv : v = .int j := hv
        exact ⟨j, hv, rg_ok ho, fun p hp => new_t (S1.temps (tm' := tm) fun p hp => List.mem_cons_of_mem _ hp) hp (dq_rg 0 j) hk fun v H' r g' B' al' hr S' rv => q v H' r g' B' al' hr (S'.push rv)⟩
      · rw [if_neg ho] at hk; exact hk.elim
    | _ => exact hk.elim
  | _ => exact hk.elim
theorem q_lrgO1 (hc : X.calm = true) (hg : Gl X "list") (hm : X.mg "list" = none) (hgr : Gl X "range") (hmr : X.mg "range" = none) (ha : PF ρ X dx a f) (na : starEach [a] X.env = (false, eval a X.env) :: starEach [] X.env := by rfl)
    (nb : starEach [.Call (.Name "range" p1) [a] [] p2] X.env = (false, eval (.Call (.Name "range" p1) [a] [] p2) X.env) :: starEach [] X.env := by rfl) : PF ρ X dx (.Call (.Name "list" p3) [.Call (.Name "range" p1) [a] [] p2] [] pos) (fRgO1 f) := by
  refine pe_imp (pe_listRg hc hg hm (prg_1 hgr hmr ha na) nb) fun s H Q h => ?_
  obtain ⟨F, g, tm, k, B, al, S, hd, q⟩ := h
  refine ⟨F, g, tm, _, B, al, S, go_bind.mp hd, fun v H1 r g1 B1 al1 hk S1 => ?_⟩
  cases r with
  | d y =>
    cases y with
    | int j =>
      have hk : (if rgOk 0 j = true then newO (.lst (rng 0 (j - 0).toNat)) g1 else .no).go dx k := hk
      by_cases ho : rgOk 0 j = true
      · rw [if_pos ho] at hk
        have hv := dq_int (S1.top rfl)
        have hv : v = .int j := hv
        exact ⟨j, hv, rg_ok ho, fun p hp => new_o (S1.temps (tm' := tm) fun p hp => List.mem_cons_of_mem _ hp) hp (dq_rg 0 j) hk fun v H' r g' B' al' hr S' rv => q v H' r g' B' al' hr (S'.push rv)⟩
      · rw [if_neg ho] at hk; exact hk.elim
    | _ => exact hk.elim
  | _ => exact hk.elim
theorem rd_rg2 {g : G} {k : R → G → Prop} {c : Int → Int → G → Out R} (h : ((f1 g).bind fun r1 g1 => (f2 g1).bind fun r2 g2 => match r1, r2 with
    | .d (.int i), .d (.int j) => c i j g2
    | _, _ => .no).go dx k) : (f1 g).go dx fun r1 g1 => (f2 g1).go dx fun r2 g2 => ∃ i j, r1 = .d (.int i) ∧ r2 = .d (.int j) ∧ (c i j g2).go dx k := by
  refine go_mono (go_bind.mp h) fun r1 g1 h1 => go_mono (go_bind.mp h1) fun r2 g2 h2 => ?_
  split at h2
  · exact ⟨_, _, rfl, rfl, h2⟩
  · exact h2.elim
theorem rg2_core {te : TE} {F : Fm} {g : G} {tm : List (V × R)} {s : L2.St} {H B : Hp} {al : List Addr} {k : R → G → Prop} {c : Int → Int → G → Out R} {Z : Int → Int → Hp → Prop} (S : Stt ⟨X.K, ρ⟩ F g tm s H B al)
    (h : (f1 g).go dx fun r1 g1 => (f2 g1).go dx fun r2 g2 => ∃ i j, r1 = .d (.int i) ∧ r2 = .d (.int j) ∧ (c i j g2).go dx k)
    (z : ∀ i j H2 g2 B2 al2, (c i j g2).go dx k → Stt ⟨X.K, ρ⟩ F g2 tm s H2 B2 al2 → Z i j H2) : tRg2 (lift ⟨X.K, ρ⟩ (rd dx f1)) (lift ⟨X.K, ρ⟩ (rd dx f2)) s H Z :=
  ⟨F, g, tm, _, B, al, S, h, fun x H1 r1 g1 B1 al1 h1 S1 => ⟨F, g1, (x, r1) :: tm, _, B1, al1, S1, h1, fun y H2 r2 g2 B2 al2 ⟨i, j, e1, e2, h2⟩ S2 => by
    subst e1 e2
    have ey := dq_int (S2.top rfl)
    have ex := dq_int (S2.tm (x, _) (List.mem_cons_of_mem _ List.mem_cons_self))
    exact ⟨i, j, ex, ey, z i j H2 g2 B2 al2 h2 (S2.temps fun p hp => List.mem_cons_of_mem _ (List.mem_cons_of_mem _ hp))⟩⟩⟩
theorem q_lrg2 (hc : X.calm = true) (hg : Gl X "list") (hm : X.mg "list" = none) (hgr : Gl X "range") (hmr : X.mg "range" = none) (ha : PF ρ X dx a f1) (hb : PF ρ X dx b f2) (na : starEach [a, b] X.env = (false, eval a X.env) :: starEach [b] X.env := by rfl) (nb : starEach [b] X.env = (false, eval b X.env) :: starEach [] X.env := by rfl)
    (hp : (backTo p2 (starEach [b] X.env)).any (·.1) = false := by rfl) (nc : starEach [.Call (.Name "range" p1) [a, b] [] p2] X.env = (false, eval (.Call (.Name "range" p1) [a, b] [] p2) X.env) :: starEach [] X.env := by rfl) : PF ρ X dx (.Call (.Name "list" p3) [.Call (.Name "range" p1) [a, b] [] p2] [] pos) (fRg2 false f1 f2) := by
  refine pe_imp (pe_listRg hc hg hm (prg_2 hgr hmr ha hb na nb hp) nc) fun s H Q h => ?_
  obtain ⟨F, g, tm, k, B, al, S, hd, q⟩ := h
  refine rg2_core (te := tC .non) (c := rgK false) (k := k) S (rd_rg2 hd) fun i j H2 g2 B2 al2 hk S2 => ?_
  unfold rgK at hk
  by_cases ho : rgOk i j = true
  · rw [if_pos ho] at hk
    exact ⟨rg_ok ho, fun p hp => new_l S2 hp (dq_rg i j) hk fun v H' r g' B' al' hr S' rv => q v H' r g' B' al' hr (S'.push rv)⟩
  · rw [if_neg ho] at hk; exact hk.elim
end
end
end DL
set_option Elab.async false
set_option linter.all false
set_option maxRecDepth 100000
set_option maxHeartbeats 4000000
set_option autoImplicit false
namespace DL
open PySem PySem.Spec PyProof.Rows L2
section
variable {K : KR} {F : Fm} {g : G} {tm : List (V × R)} {s : L2.St} {H B : Hp} {al : List Addr}
theorem Stt.freeze (S : Stt K F g tm s H B al) {j : Nat} {p : Addr} {ds : List PyData} (ha : al[j]? = some p) (hc : g.ce[j]? = some (.lst ds)) :
    ∃ B' xs, Same B B' ∧ B' p = some (.lst xs) ∧ DqAll B' xs ds ∧ Stt K F (putC g j .dead) tm s H B' al := by
  obtain ⟨xs, h1, h2⟩ := S.ce j p _ ha hc
  have hB := S.nb j p _ ha hc (by simp)
  have eB : Same B (upd B p (.lst xs)) := same_new hB
  have ma := List.mem_of_getElem? ha
  refine ⟨upd B p (.lst xs), xs, eB, upd_same, dqall_mono eB h2, { rb := S.rb, ro := S.ro, rp := S.rp, ot := S.ot, fb := S.fb.trans eB, bh := ?_, fo := ?_, pre := S.pre, len := (by show al.length = (g.ce.set j .dead).length; rw [List.length_set]; exact S.len), nd := S.nd, lv := S.lv, nb := ?_, ce := ?_, sl := ?_, tm := ?_, sln := S.sln }⟩
  · intro a o e
    by_cases h : a = p
    · subst h; rw [upd_same] at e; cases e; exact h1
    · rw [upd_ne h] at e; exact S.bh _ _ e
  · intro a o e
    obtain ⟨q1, q2, q3⟩ := S.fo a o e
    have ne : a ≠ p := fun z => q3 (z ▸ ma)
    exact ⟨q1, by rw [upd_ne ne]; exact q2, q3⟩
  · intro i a ct e1 e2 e3
    have e2 : (g.ce.set j .dead)[i]? = some ct := e2
    by_cases hi : i = j
    · subst hi
      rw [List.getElem?_set] at e2
      simp only [if_true] at e2
      split at e2
      · cases e2; exact absurd rfl e3
      · cases e2
    · rw [List.getElem?_set_ne (Ne.symm hi)] at e2
      have ne : a ≠ p := fun z => by
        subst z
        have l1 := (List.getElem?_eq_some_iff.mp e1)
        have l2 := (List.getElem?_eq_some_iff.mp ha)
        exact hi ((List.getElem_inj S.nd).mp (l1.2.trans l2.2.symm))
      rw [upd_ne ne]
      exact S.nb i a ct e1 e2 e3
  · intro i a ct e1 e2
    have e2 : (g.ce.set j .dead)[i]? = some ct := e2
    by_cases hi : i = j
    · subst hi
      rw [List.getElem?_set] at e2
      simp only [if_true] at e2
      split at e2
      · cases e2; rw [ha] at e1; cases e1; exact ⟨_, h1, fun us z => nomatch z⟩
      · cases e2
    · rw [List.getElem?_set_ne (Ne.symm hi)] at e2
      exact ct_mono0 eB (fun o e => e) (S.ce i a ct e1 e2)
  · intro i r e
    obtain ⟨v, q1, q2⟩ := S.sl i r e
    exact ⟨v, q1, rv_mono0 eB q2⟩
  · intro q hq
    exact rv_mono0 eB (S.tm q hq)
def frzR (r : R) (g : G) : Option (PyData × G) := match r with
  | .d x => some (x, g)
  | .o j => match g.ce[j]? with
    | some (.lst ds) => some (.list ds, putC g j .dead)
    | _ => none
  | _ => none
def frzs : List R → G → Option (List PyData × G)
  | [], g => some ([], g)
  | r :: rs, g => match frzR r g with
    | some (x, g1) => match frzs rs g1 with
      | some (xs, g2) => some (x :: xs, g2)
      | none => none
    | none => none
theorem frzs_len : ∀ {rs : List R} {g g' : G} {ds : List PyData}, frzs rs g = some (ds, g') → ds.length = rs.length
  | [], g, g', ds, h => by cases h; rfl
  | r :: rs, g, g', ds, h => by
    unfold frzs at h
    split at h
    · split at h
      · rename_i x g1 e1 _ xs g2 e2
        cases h
        rw [List.length_cons, List.length_cons, frzs_len e2]
      · cases h
    · cases h
theorem frzs_ok : ∀ {rs : List R} {vs : List V} {ds : List PyData} {g g' : G} {B : Hp}, Paired (RvOk K B al) vs rs → frzs rs g = some (ds, g') → Stt K F g tm s H B al → ∃ B', Same B B' ∧ DqAll B' vs ds ∧ Stt K F g' tm s H B' al
  | [], _, ds, g, g', B, .nil, h, S => by
    cases h
    exact ⟨B, Same.refl _, .nil, S⟩
  | r :: rs, v :: vs, ds, g, g', B, .cons hv pr, h, S => by
    unfold frzs at h
    split at h
    · rename_i x g1 e1
      split at h
      · rename_i xs g2 e2
        cases h
        cases r with
        | d y =>
          cases e1
          obtain ⟨B', eB, hd, S'⟩ := frzs_ok pr e2 S
          exact ⟨B', eB, .cons (dq_mono eB hv) hd, S'⟩
        | o j =>
          obtain ⟨p, hp, rfl⟩ := hv
          unfold frzR at e1
          simp only at e1
          split at e1
          · rename_i ds' hc
            cases e1
            obtain ⟨B1, ys, eB1, hb, hd1, S1⟩ := S.freeze hp hc
            obtain ⟨B', eB, hd, S'⟩ := frzs_ok (paired_imp (fun _ _ h => rv_mono0 eB1 h) pr) e2 S1
            exact ⟨B', eB1.trans eB, .cons (.lst (eB _ _ hb) (dqall_mono eB hd1)) hd, S'⟩
          · cases e1
        | _ => cases e1
      · cases h
    · cases h
end
def fTupF (fs : FAr) : FE := fun g => (fs g).bind fun rs g1 => match frzs rs g1 with
  | some (ds, g2) => if ds.length ≤ 1000 then .ok (.d (.tuple ds)) g2 else .no
  | none => .no
def tupK (o : Option (List PyData × G)) : Out R := match o with
  | some (ds, g2) => if ds.length ≤ 1000 then .ok (.d (.tuple ds)) g2 else .no
  | none => .no
theorem fTupF_ap (fs : FAr) (g : G) : fTupF fs g = (fs g).bind fun rs g1 => tupK (frzs rs g1) := id rfl
theorem tupK_some (ds : List PyData) (g : G) : tupK (some (ds, g)) = if ds.length ≤ 1000 then .ok (.d (.tuple ds)) g else .no := id rfl
section
variable {ρ : Root} {X : Cx} {dx : DX} {es : List Expr} {pos : Pos} {fs : FAr} {k : Nat}
theorem q_tupF (h : PFA ρ X dx es fs) : PF ρ X dx (.Tuple es k pos) (fTupF fs) := by
  refine pe_imp (pe_tup h) fun s H Q h => ?_
  obtain ⟨F, g, tm, k, B, al, S, hd, q⟩ := h
  refine ⟨F, g, tm, _, B, al, S, go_bind.mp hd, fun vs H1 rs g1 B1 al1 hk S1 pr => ?_⟩
  cases hz : frzs rs g1 with
  | none => rw [hz] at hk; exact hk.elim
  | some p =>
    obtain ⟨ds, g2⟩ := p
    rw [hz] at hk
    have hk : (if ds.length ≤ 1000 then (.ok (.d (.tuple ds)) g2 : Out R) else .no).go dx k := hk
    by_cases hl : ds.length ≤ 1000
    · rw [if_pos hl] at hk
      obtain ⟨B2, eB, hd2, S2⟩ := frzs_ok pr hz S1
      have hv : vs.length = ds.length := by rw [pr.length, frzs_len hz]
      exact ⟨by rw [sizeLine_eq]; omega, fun p hp => new_t S2 hp hd2 hk fun v H' r g' B' al' hr S' rv => q v H' r g' B' al' hr (S'.push rv)⟩
    · rw [if_neg hl] at hk; exact hk.elim
end
end DL
set_option Elab.async false
set_option linter.all false
set_option maxRecDepth 100000
set_option maxHeartbeats 4000000
set_option autoImplicit false
namespace DL
open PySem PySem.Spec PyProof.Rows L2
def lstAt (g : G) (j : Nat) : Option PyData := match g.ce[j]? with
  | some (.lst ds) => some (.list ds)
  | _ => none
def lstsAt (g : G) : List Nat → Option (List PyData)
  | [] => some []
  | j :: js => match lstAt g j, lstsAt g js with
    | some x, some xs => some (x :: xs)
    | _, _ => none
def loanR (g : G) : R → Option PyData
  | .d x => some x
  | .o j => lstAt g j
  | .l js => (lstsAt g js).map .list
  | _ => none
def loans (g : G) : List R → Option (List PyData)
  | [] => some []
  | r :: rs => match loanR g r, loans g rs with
    | some x, some xs => some (x :: xs)
    | _, _ => none
def isSc : PyData → Bool
  | .none => true
  | .bool _ => true
  | .int _ => true
  | .str _ => true
  | _ => false
theorem dq_sc {B B' : Hp} {v : V} {x : PyData} (h : isSc x = true) (d : Dq B v x) : Dq B' v x := by
  cases d with
  | non => exact .non
  | bl b => exact .bl b
  | int i => exact .int i
  | str z => exact .str z
  | lst _ _ => cases h
  | tup _ _ => cases h
section
variable {K : KR} {F : Fm} {g : G} {tm : List (V × R)} {s : L2.St} {H B : Hp} {al : List Addr}
def allB (H B : Hp) (al : List Addr) : Hp := fun a => if al.contains a = true then H a else B a
theorem allB_in {a : Addr} (h : a ∈ al) : allB H B al a = H a := by unfold allB; rw [if_pos (List.contains_iff_mem.mpr h)]
theorem allB_out {a : Addr} (h : a ∉ al) : allB H B al a = B a := by unfold allB; rw [if_neg (fun z => h (List.contains_iff_mem.mp z))]
theorem allB_same (bh : Same B H) : Same B (allB H B al) := fun a o e => by
  by_cases h : a ∈ al
  · rw [allB_in h]; exact bh _ _ e
  · rw [allB_out h]; exact e
theorem Stt.loan (S : Stt K F g tm s H B al) : Stt K F ⟨g.sl, g.ce.map fun _ => .dead⟩ tm s H (allB H B al) al := by
  have eB := allB_same (al := al) S.bh
  have dd : ∀ (i : Nat) (ct : Ct), (g.ce.map fun _ => Ct.dead)[i]? = some ct → ct = .dead := fun i ct e => by
    rw [List.getElem?_map] at e
    cases h : g.ce[i]? with
    | none => rw [h] at e; cases e
    | some c => rw [h] at e; cases e; rfl
  refine { rb := S.rb, ro := S.ro, rp := S.rp, ot := S.ot, fb := S.fb.trans eB, bh := ?_, fo := ?_, pre := S.pre, len := (by show al.length = (g.ce.map _).length; rw [List.length_map]; exact S.len), nd := S.nd, lv := S.lv, nb := ?_, ce := ?_, sl := ?_, tm := ?_, sln := S.sln }
  · intro a o e
    by_cases h : a ∈ al
    · rw [allB_in h] at e; exact e
    · rw [allB_out h] at e; exact S.bh _ _ e
  · intro a o e
    obtain ⟨q1, q2, q3⟩ := S.fo a o e
    exact ⟨q1, by rw [allB_out q3]; exact q2, q3⟩
  · intro i a ct e1 e2 e3
    exact absurd (dd i ct e2) e3
  · intro i a ct e1 e2
    rw [dd i ct e2]
    rw [List.getElem?_map] at e2
    cases hc : g.ce[i]? with
    | none => rw [hc] at e2; cases e2
    | some c => exact ct_box (S.ce i a c e1 hc)
  · intro i r e
    obtain ⟨v, q1, q2⟩ := S.sl i r e
    exact ⟨v, q1, rv_mono0 eB q2⟩
  · intro q hq
    exact rv_mono0 eB (S.tm q hq)
theorem dq_own (S : Stt K F g tm s H B al) {j : Nat} {a : Addr} {x : PyData} (ha : al[j]? = some a) (h : lstAt g j = some x) : Dq (allB H B al) (.ref a) x := by
  unfold lstAt at h
  split at h
  · rename_i ds hc
    cases h
    obtain ⟨xs, h1, h2⟩ := S.ce j a _ ha hc
    exact .lst (by rw [allB_in (List.mem_of_getElem? ha)]; exact h1) (dqall_mono (allB_same S.bh) h2)
  · cases h
theorem dq_owns (S : Stt K F g tm s H B al) : ∀ {js : List Nat} {xs : List V} {ds : List PyData}, Paired (fun (x : V) (j : Nat) => ∃ a, al[j]? = some a ∧ x = V.ref a) xs js → lstsAt g js = some ds → DqAll (allB H B al) xs ds
  | [], _, ds, .nil, h => by cases h; exact .nil
  | j :: js, _ :: xs, ds, .cons a b, h => by
    unfold lstsAt at h
    split at h
    · rename_i y ys e1 e2
      cases h
      obtain ⟨q, hq, rfl⟩ := a
      exact .cons (dq_own S hq e1) (dq_owns S b e2)
    · cases h
theorem dq_loan (S : Stt K F g tm s H B al) {v : V} {r : R} {x : PyData} (hv : RvOk K B al v r) (h : loanR g r = some x) : Dq (allB H B al) v x := by
  cases r with
  | d y => cases h; exact dq_mono (allB_same S.bh) hv
  | o j =>
    obtain ⟨a, ha, rfl⟩ := hv
    exact dq_own S ha h
  | l js =>
    obtain ⟨p, xs, rfl, h1, h2⟩ := hv
    have h : (lstsAt g js).map PyData.list = some x := h
    cases e : lstsAt g js with
    | none => rw [e] at h; cases h
    | some ds =>
      rw [e] at h
      cases h
      exact .lst (allB_same S.bh _ _ h1) (dq_owns S h2 e)
  | f j ds => cases h
  | s ns => cases h
  | x n => cases h
  | m ct => cases h
end
def callL (f : Fn) (rs : List R) (g : G) : Out R := match loans g rs with
  | some ds => match f (ds.map R.d) [] with
    | .ok (.dat x) _ => if isSc x = true then .ok (.d x) g else .no
    | _ => .no
  | none => .no
def fCallL (f : Fn) (fs : FAr) : FE := fun g => (fs g).bind fun rs g1 => callL f rs g1
theorem fCallL_ap (f : Fn) (fs : FAr) (g : G) : fCallL f fs g = (fs g).bind fun rs g1 => callL f rs g1 := id rfl
section
variable {ρ : Root} {X : Cx} {dx : DX} {k : Nat} {f : Addr} {fd : FuncData} {ps : List Str} {x : Str} {p pos : Pos} {a b e : Expr} {es : List Expr} {K : KR} {fn : Fn} {fs : FAr} {f1 f2 : FE}
def asOs : List R → Option (List Nat)
  | [] => some []
  | .o j :: r => (asOs r).map (j :: ·)
  | _ => none
def lstLK (g : G) (o : Option (List Nat)) : Out R := match o with
  | some js => if js.length ≤ 1000 then .ok (.l js) g else .no
  | none => .no
def fLstL (fs : FAr) : FE := fun g => (fs g).bind fun rs g1 => lstLK g1 (asOs rs)
theorem fLstL_ap (fs : FAr) (g : G) : fLstL fs g = (fs g).bind fun rs g1 => lstLK g1 (asOs rs) := id rfl
theorem asOs_paired {B : Hp} {al : List Addr} : ∀ {rs : List R} {vs : List V} {js : List Nat}, Paired (RvOk K B al) vs rs → asOs rs = some js → Paired (fun (x : V) (j : Nat) => ∃ a, al[j]? = some a ∧ x = V.ref a) vs js
  | [], _, js, .nil, h => by cases h; exact .nil
  | .o j :: rs, v :: vs, js, .cons a b, h => by
    have h : (asOs rs).map (j :: ·) = some js := h
    cases e : asOs rs with
    | none => rw [e] at h; cases h
    | some ks => rw [e] at h; cases h; exact .cons a (asOs_paired b e)
  | .d _ :: _, _ :: _, _, .cons _ _, h => by cases h
  | .s _ :: _, _ :: _, _, .cons _ _, h => by cases h
  | .x _ :: _, _ :: _, _, .cons _ _, h => by cases h
  | .m _ :: _, _ :: _, _, .cons _ _, h => by cases h
  | .l _ :: _, _ :: _, _, .cons _ _, h => by cases h
  | .f _ _ :: _, _ :: _, _, .cons _ _, h => by cases h
def opIxL : Op2 := fun _ r1 r2 => match r1, r2 with
  | .l js, .d (.int i) => (atI js i).map R.o
  | _, _ => none
theorem opIxL_ap (g : G) (js : List Nat) (i : Int) : opIxL g (.l js) (.d (.int i)) = (atI js i).map R.o := id rfl
def oIxL : D2 := fun r1 r2 g k => ∃ js i j, r1 = .l js ∧ r2 = .d (.int i) ∧ atI js i = some j ∧ k (.o j) g
theorem paired_at {α β : Type} {P : α → β → Prop} : ∀ {xs : List α} {ys : List β} {n : Nat} {y : β}, Paired P xs ys → ys[n]? = some y → ∃ x, xs[n]? = some x ∧ P x y
  | _, _, n, y, .nil, h => by simp at h
  | _, _, 0, y, .cons a b, h => by cases h; exact ⟨_, rfl, a⟩
  | _, _, n + 1, y, .cons a b, h => by
    obtain ⟨x, h1, h2⟩ := paired_at (n := n) b (by simpa using h)
    exact ⟨x, by simpa using h1, h2⟩
theorem ref_ixL {K : KR} : RefOp K (fun x y H Q => rIxL K.fr x y H Q ∨ rIxT K.fr x y H Q) oIxL := by
  rintro F g tm s H B al x y r1 r2 k Q S hx hy ⟨js, i, j, rfl, rfl, e2, hk⟩ q
  have ey := dq_int hy
  subst ey
  obtain ⟨p, xs, rfl, h1, h2⟩ := hx
  have e3 : ∃ v, atI xs i = some v ∧ ∃ a, al[j]? = some a ∧ v = V.ref a := by
    unfold atI at e2 ⊢
    rw [h2.length]
    cases hi : ixN js.length i with
    | none => rw [hi] at e2; cases e2
    | some n => rw [hi] at e2; exact paired_at h2 e2
  obtain ⟨v, hv, hd⟩ := e3
  exact .inl ⟨p, xs, i, v, rfl, rfl, .inl (.inl (S.bh _ _ h1)), hv, q _ H _ g B al hk S hd⟩
theorem says_ixL : Says opIxL oIxL := fun r1 r2 g k r e hk => by
  unfold opIxL at e
  split at e
  · rename_i js i
    cases h : atI js i with
    | none => rw [h] at e; cases e
    | some j => rw [h] at e; cases e; exact ⟨js, i, j, rfl, rfl, h, hk⟩
  · cases e
theorem q_ixL (ha : PF ρ X dx a f1) (hb : PF ρ X dx b f2) (hs : PlainIx b := by intro _ _; rfl) : PF ρ X dx (.Subscript a b pos) (fOp opIxL f1 f2) := pd_mono (pe_imp (pe_ix (IxR.or ix_list ix_tup) ha hb hs) (ref_op ref_ixL)) (rd_op says_ixL)
end
end DL
set_option Elab.async false
set_option linter.all false
set_option maxRecDepth 100000
set_option maxHeartbeats 4000000
set_option autoImplicit false
namespace DL
open PySem PySem.Spec PyProof.Rows L2
def tTupA (n : Nat) (t : FGs) : FG := fun r g => match r with
  | .d (.tuple ds) => if ds.length = n then t (ds.map .d) g else .no
  | .d (.list ds) => if ds.length = n then t (ds.map .d) g else .no
  | _ => .no
@[simp] theorem tTupA_t (n : Nat) (t : FGs) (ds : List PyData) (g : G) : tTupA n t (.d (.tuple ds)) g = if ds.length = n then t (ds.map .d) g else .no := id rfl
@[simp] theorem tTupA_l (n : Nat) (t : FGs) (ds : List PyData) (g : G) : tTupA n t (.d (.list ds)) g = if ds.length = n then t (ds.map .d) g else .no := id rfl
section
variable {ρ : Root} {X : Cx} {dx : DX} {es : List Expr} {pos : Pos}
theorem pg_or {tg : Expr} {t u : TG} (h1 : PG X tg t) (h2 : PG X tg u) : PG X tg (fun v σ H Q => t v σ H Q ∨ u v σ H Q) := ⟨fun pins s σ H v w Q I r q => q.elim (h1.run pins s σ H v w Q I r) (h2.run pins s σ H v w Q I r)⟩
theorem qg_tupA {ws : List Nat} {k : Nat} {t : FGs} {n : Nat} (hc : X.calm = true) (h : PFGs ρ X dx ws es t) (hn : (assignEach es X.env).length = n := by rfl) (hst : (assignEach es X.env).findIdx? (·.1) = none := by rfl) : PFG ρ X dx ws (.Tuple es k pos) (tTupA n t) := by
  refine pg_imp (pg_or (pg_tup hc h hn hst) (pg_lst hc h hn hst)) fun v s H Q hh => ?_
  obtain ⟨F, g, tm, r, k, B, al, S, hv, hk, q⟩ := hh
  cases r with
  | d y =>
    cases y with
    | tuple ds =>
      have hk : (if ds.length = n then t (ds.map R.d) g else .no).go dx (fun _ => k) := hk
      by_cases hl : ds.length = n
      · rw [if_pos hl] at hk
        obtain ⟨a, xs, rfl, h1, h2⟩ := dq_tup hv
        exact .inl ⟨a, xs, rfl, .inl (.inl (S.bh _ _ h1)), by rw [dqall_len h2]; exact hl, F, g, tm, _, k, B, al, S, dq_paired h2, hk, q⟩
      · rw [if_neg hl] at hk; exact hk.elim
    | list ds =>
      have hk : (if ds.length = n then t (ds.map R.d) g else .no).go dx (fun _ => k) := hk
      by_cases hl : ds.length = n
      · rw [if_pos hl] at hk
        obtain ⟨a, xs, rfl, h1, h2⟩ := dq_list hv
        exact .inr ⟨a, xs, rfl, .inl (.inl (S.bh _ _ h1)), by rw [dqall_len h2]; exact hl, F, g, tm, _, k, B, al, S, dq_paired h2, hk, q⟩
      · rw [if_neg hl] at hk; exact hk.elim
    | _ => exact hk.elim
  | _ => exact hk.elim
end
end DL
set_option Elab.async false
set_option linter.all false
set_option maxRecDepth 100000
set_option maxHeartbeats 4000000
set_option autoImplicit false
namespace DL
open PySem PySem.Spec PyProof.Rows L2 PySem.W
section
variable {ρ : Root} {X : Cx} {dx : DX} {e : Expr} {es : List Expr} {pos : Pos}
abbrev BT : Int := 1048576
end
def asTups : List PyData → Option (List (List Int))
  | [] => some []
  | .tuple ds :: r => match asInts ds with
    | some ns => (asTups r).map (ns :: ·)
    | none => none
  | _ => none
theorem asTups_eq : ∀ {ds : List PyData} {nss : List (List Int)}, asTups ds = some nss → ds = nss.map tupD
  | [], nss, h => by cases h; rfl
  | .tuple ds :: r, nss, h => by
    simp only [asTups] at h
    cases hi : asInts ds with
    | none => rw [hi] at h; cases h
    | some ns =>
      rw [hi] at h
      cases hr : asTups r with
      | none => simp only [hr, Option.map_none] at h; cases h
      | some ms =>
        simp only [hr, Option.map_some] at h
        cases h
        rw [List.map_cons, ← asTups_eq hr, asInts_eq hi]
        rfl
  | .none :: _, _, h => by cases h
  | .bool _ :: _, _, h => by cases h
  | .int _ :: _, _, h => by cases h
  | .str _ :: _, _, h => by cases h
  | .list _ :: _, _, h => by cases h
  | .dict _ :: _, _, h => by cases h
theorem asTups_of : ∀ nss : List (List Int), asTups (nss.map tupD) = some nss
  | [] => rfl
  | ns :: r => by
    show (match asInts (ns.map .int) with | some ns => (asTups (r.map tupD)).map (ns :: ·) | none => none) = _
    rw [asInts_map, asTups_of r]
    rfl
def AscT (nss : List (List Int)) : Prop := nss.length < 64 ∧ (∀ n ∈ nss, ∀ m ∈ n, 0 ≤ m ∧ m < BT) ∧ (∀ n ∈ nss, n.length = (nss.headD []).length) ∧ nss.Pairwise (fun a b => TS.code BT a ≤ TS.code BT b)
instance (nss : List (List Int)) : Decidable (AscT nss) := by unfold AscT; infer_instance
def clSortA : Cl := fun g rs => match rs with
  | [r] => match seqOf g r with
    | some (false, ds) => match asTups ds with
      | some nss => if AscT nss then some (.d (.list ds)) else none
      | none => none
    | _ => none
  | _ => none
@[simp] theorem clSortA_ap (g : G) (r : R) {nss : List (List Int)} (hs : seqOf g r = some (false, nss.map tupD)) (h : AscT nss) : clSortA g [r] = some (.d (.list (nss.map tupD))) := by
  show (match seqOf g r with
    | some (false, ds) => (match asTups ds with
      | some nss => if AscT nss then some (.d (.list ds)) else none
      | none => none)
    | _ => none : Option R) = _
  rw [hs]
  show (match asTups (nss.map tupD) with
      | some nss' => if AscT nss' then some (R.d (.list (nss.map tupD))) else none
      | none => none : Option R) = _
  rw [asTups_of]
  exact if_pos h
def opNotB : Op2 := fun _ r1 r2 => match r1, r2 with
  | .d (.bool a), .d (.bool b) => some (.d (.bool (!decide (a = b))))
  | _, _ => none
@[simp] theorem opNotB_b (g : G) (a b : Bool) : opNotB g (.d (.bool a)) (.d (.bool b)) = some (.d (.bool (!decide (a = b)))) := id rfl
end DL
set_option Elab.async false
set_option linter.all false
set_option maxRecDepth 100000
set_option maxHeartbeats 4000000
set_option autoImplicit false
namespace DL
open PySem PySem.Spec PyProof.Rows L2 PySem.W
theorem dq_permM {α : Type} {f : α → PyData} {B : Hp} {xs ys : List V} {l : List α} (hp : ys.Perm xs) (h : DqAll B xs (l.map f)) : ∃ l' : List α, l'.Perm l ∧ DqAll B ys (l'.map f) := by
  induction hp generalizing l with
  | nil => cases l with
    | nil => exact ⟨[], .nil, .nil⟩
    | cons n nss => cases h
  | @cons x l1 l2 hp ih =>
    cases l with
    | nil => cases h
    | cons n nss =>
      cases h with
      | cons h t =>
        obtain ⟨mss, p, q⟩ := ih t
        exact ⟨n :: mss, p.cons n, .cons h q⟩
  | @swap x y l1 =>
    match l, h with
    | n :: m :: nss, .cons h (.cons h' t) => exact ⟨m :: n :: nss, .swap _ _ _, .cons h' (.cons h t)⟩
  | trans p q ih1 ih2 =>
    obtain ⟨mss, p1, q1⟩ := ih2 h
    obtain ⟨kss, p2, q2⟩ := ih1 q1
    exact ⟨kss, p2.trans p1, q2⟩
def keyV (H : Hp) (x : V) : Int × Int := match x with
  | .ref t => match H t with
    | some (.tup [.int i, .int j]) => (i, j)
    | _ => (0, 0)
  | _ => (0, 0)
theorem key_of {H B : Hp} {x : V} {p : Int × Int} (hb : ∀ a o, B a = some o → H a = some o) (h : Dq B x (pD p)) : keyV H x = p ∧ ∃ t, x = .ref t ∧ H t = some (.tup [.int p.1, .int p.2]) := by
  obtain ⟨a, xs, rfl, h1, h2⟩ := dq_tup h
  cases dqall_ints (ns := [p.1, p.2]) h2
  have h3 := hb _ _ h1
  refine ⟨?_, a, rfl, h3⟩
  show (match H a with
    | some (.tup [.int i, .int j]) => (i, j)
    | _ => (0, 0)) = p
  rw [h3]
  rfl
end DL
set_option Elab.async false
set_option linter.all false
set_option maxRecDepth 100000
set_option maxHeartbeats 4000000
set_option autoImplicit false
namespace DL
open PySem PySem.Spec PyProof.Rows L2
end DL
set_option Elab.async false
set_option linter.all false
set_option maxRecDepth 100000
set_option maxHeartbeats 4000000
set_option autoImplicit false
namespace DL
open PySem PySem.Spec PyProof.Rows L2
def reprOk (x : PyData) : Bool := x.showable && decide (x.shown.length ≤ sizeLine) && decide (x.depth ≤ 60)
def rRepr (K : PySem.W.Frag) : List V → Hp → VK → Prop := fun vs H Q => ∃ v x, vs = [v] ∧ Dp K H v x ∧ reprOk x = true ∧ Q (.str x.shown) H
theorem cr_repr {X : Cx} (hg : X.A.guards = some []) (hu : X.A.units + 65 < cLine) : CallR X (.builtin "repr") (rRepr X.K) := by
  intro pins s σ H xs us Q I r h
  obtain ⟨v, x, rfl, hd, hk, q⟩ := h
  obtain ⟨u, rfl, ru⟩ := vals1 r
  simp only [reprOk, Bool.and_eq_true, decide_eq_true_eq] at hk
  obtain ⟨⟨k1, k2⟩, k3⟩ := hk
  obtain ⟨as, hr, hn⟩ := dp_reads I hd ru
  cases v with
  | ref a =>
    cases ru
    exact repr_of_reads' hr k1 (PyData.noDict_hsm hn) hg (by omega) (fun _ _ e => e) (fun h' u tk hk => ⟨.str _, H, I.kept hk, ⟨_, rfl⟩, q⟩) k2
  | non => cases hd; cases ru; simp only [PyData.shown] at q; exact PySem.P.repr_of_none ⟨.str _, H, I.tok _, ⟨_, rfl⟩, q⟩
  | bl b => cases hd; cases ru; simp only [PyData.shown] at q; exact PySem.P.repr_of_bool ⟨.str _, H, I.tok _, ⟨_, rfl⟩, q⟩
  | int i =>
    cases hd
    obtain ⟨t, rfl⟩ := ru
    simp only [PyData.shown] at q
    exact PySem.P.repr_of_int (by simpa [PyData.showable] using k1) ⟨.str _, H, I.tok _, ⟨_, rfl⟩, q⟩
  | str z =>
    cases hd
    obtain ⟨t, rfl⟩ := ru
    simp only [PyData.shown] at q k2
    exact PySem.P.repr_of_str ⟨.str _, H, I.tok _, ⟨_, rfl⟩, q⟩ k2
  | _ => cases hd
def clRepr : Cl := fun g rs => match rs with
  | [r] => match datOf g r with
    | some x => if reprOk x = true then some (.d (.str x.shown)) else none
    | none => none
  | _ => none
theorem clRepr_ap (g : G) (r : R) {x : PyData} (hs : datOf g r = some x) (hk : reprOk x = true) : clRepr g [r] = some (.d (.str x.shown)) := by
  show (match datOf g r with
    | some x => if reprOk x = true then some (R.d (.str x.shown)) else none
    | none => none) = _
  rw [hs]
  show (if reprOk x = true then some (R.d (.str x.shown)) else none) = _
  rw [if_pos hk]
def cRepr : DCl := fun rs g k => ∃ r x, rs = [r] ∧ datOf g r = some x ∧ reprOk x = true ∧ k (.d (.str x.shown)) g
theorem repr_says : SaysC clRepr cRepr := fun rs g k r e hk => by
  unfold clRepr at e
  split at e
  · split at e
    · rename_i x hs
      split at e
      · rename_i hz
        cases e
        exact ⟨_, x, rfl, hs, hz, hk⟩
      · cases e
    · cases e
  · cases e
section
variable {ρ : Root} {X : Cx} {dx : DX} {e : Expr} {es : List Expr} {pos : Pos} {fs : FAr}
theorem pd_repr {p : Pos} {da : DA} (hgd : X.A.guards = some []) (hu : X.A.units + 65 < cLine) (hg : Gl X "repr") (hm : X.mg "repr" = none) (ha : PDA ρ X (e :: es) da) (he : starEach (e :: es) X.env = (false, eval e X.env) :: starEach es X.env := by rfl) (hpl : (backTo pos (starEach es X.env)).any (·.1) = false := by rfl) :
    PD ρ X (.Call (.Name "repr" p) (e :: es) [] pos) (dCall cRepr da) := by
  refine pd_callB (cr_repr hgd hu) ?_ hg hm (by decide +kernel) ha (he := he) (hpl := hpl)
  rintro F g tm s H B al vs rs k Q S pr ⟨r, x, rfl, hs, hz, hk⟩ q
  obtain ⟨v, rfl, hv⟩ := pair1 pr
  exact ⟨v, x, rfl, S.dat hv hs, hz, q _ _ _ g B al hk S (.str _)⟩
theorem q_repr {p : Pos} (hgd : X.A.guards = some []) (hu : X.A.units + 65 < cLine) (hg : Gl X "repr") (hm : X.mg "repr" = none) (ha : PFA ρ X dx (e :: es) fs) (he : starEach (e :: es) X.env = (false, eval e X.env) :: starEach es X.env := by rfl) (hpl : (backTo pos (starEach es X.env)).any (·.1) = false := by rfl) : PF ρ X dx (.Call (.Name "repr" p) (e :: es) [] pos) (fCl clRepr fs) := pd_mono (pd_repr hgd hu hg hm ha he hpl) (rd_cl repr_says)
end
end DL
set_option Elab.async false
set_option linter.all false
set_option maxRecDepth 100000
set_option maxHeartbeats 4000000
set_option autoImplicit false
namespace DL
open PySem PySem.Spec PyProof.Rows L2
end DL
set_option Elab.async false
set_option linter.all false
set_option maxRecDepth 100000
set_option maxHeartbeats 4000000
set_option autoImplicit false
namespace DL
open PySem PySem.Spec PyProof.Rows L2
theorem cr_strI {X : Cx} : CallR X (.type "str") (fun xs H Q => ∃ i, xs = [.int i] ∧ i.natAbs.log2 < 1920 ∧ Q (.str (toString i)) H) := by
  intro pins s σ H xs us Q I r h
  obtain ⟨i, rfl, hz, q⟩ := h
  obtain ⟨u, rfl, t, rfl⟩ := vals1 r
  exact PySem.P.str_of_int hz ⟨.str _, H, I.tok _, ⟨_, rfl⟩, q⟩
def clStr : Cl := fun g rs => match rs with
  | [.d (.int i)] => if i.natAbs.log2 < 1920 then some (.d (.str (toString i))) else none
  | _ => none
theorem clStr_ap (g : G) (i : Int) (h : i.natAbs.log2 < 1920) : clStr g [.d (.int i)] = some (.d (.str (toString i))) := by
  show (if i.natAbs.log2 < 1920 then some (R.d (.str (toString i))) else none) = _
  rw [if_pos h]
def cStr : DCl := fun rs g k => ∃ i : Int, rs = [.d (.int i)] ∧ i.natAbs.log2 < 1920 ∧ k (.d (.str (toString i))) g
theorem str_says : SaysC clStr cStr := fun rs g k r e hk => by
  unfold clStr at e
  split at e
  · split at e
    · rename_i h
      cases e
      exact ⟨_, rfl, h, hk⟩
    · cases e
  · cases e
section
variable {ρ : Root} {X : Cx} {dx : DX} {e : Expr} {es : List Expr} {pos : Pos} {fs : FAr}
theorem pd_strI {p : Pos} {da : DA} (hg : Gl X "str") (hm : X.mg "str" = none) (ha : PDA ρ X (e :: es) da) (he : starEach (e :: es) X.env = (false, eval e X.env) :: starEach es X.env := by rfl) (hpl : (backTo pos (starEach es X.env)).any (·.1) = false := by rfl) :
    PD ρ X (.Call (.Name "str" p) (e :: es) [] pos) (dCall cStr da) := by
  refine pd_callTy cr_strI ?_ hg hm (by decide +kernel) ha (he := he) (hpl := hpl)
  rintro F g tm s H B al vs rs k Q S pr ⟨i, rfl, hz, hk⟩ q
  obtain ⟨v, rfl, hv⟩ := pair1 pr
  cases dq_int hv
  exact ⟨i, rfl, hz, q _ _ _ g B al hk S (.str _)⟩
theorem q_strI {p : Pos} (hg : Gl X "str") (hm : X.mg "str" = none) (ha : PFA ρ X dx (e :: es) fs) (he : starEach (e :: es) X.env = (false, eval e X.env) :: starEach es X.env := by rfl) (hpl : (backTo pos (starEach es X.env)).any (·.1) = false := by rfl) : PF ρ X dx (.Call (.Name "str" p) (e :: es) [] pos) (fCl clStr fs) := pd_mono (pd_strI hg hm ha he hpl) (rd_cl str_says)
end
mutual
def szD : PyData → Nat
  | .none => 4
  | .bool _ => 5
  | .int i => (Str.ofString (toString i)).length
  | .str s => (reprText s).length
  | .list xs => 3 + szAll xs
  | .tuple xs => 3 + szAll xs
  | .dict _ => 0
def szAll : List PyData → Nat
  | [] => 0
  | x :: xs => szD x + 2 + szAll xs
end
end DL
set_option Elab.async false
set_option linter.all false
set_option maxRecDepth 100000
set_option maxHeartbeats 4000000
set_option autoImplicit false
namespace DL
open PySem PySem.Spec PyProof.Rows L2
theorem szAll_sum : ∀ xs : List PyData, (PyData.shownAll xs).length = xs.length
  | [] => rfl
  | x :: xs => by simp only [PyData.shownAll, List.length_cons, szAll_sum xs]
mutual
theorem shown_le : ∀ x : PyData, x.hasDict = false → x.shown.length ≤ szD x
  | .none, _ => by simp only [PyData.shown, szD]; decide
  | .bool b, _ => by simp only [PyData.shown, szD]; cases b <;> decide
  | .int i, _ => by simp only [PyData.shown, szD]; exact Nat.le_refl _
  | .str s, _ => by simp only [PyData.shown, szD]; exact Nat.le_refl _
  | .list xs, h => by
    simp only [PyData.shown, szD]
    have h1 := listText_len_le (PyData.shownAll xs)
    have h2 := shownAll_le xs (by simpa only [PyData.hasDict] using h)
    rw [szAll_sum] at h1
    omega
  | .tuple xs, h => by
    simp only [PyData.shown, szD]
    have h1 := tupleText_len_le (PyData.shownAll xs)
    have h2 := shownAll_le xs (by simpa only [PyData.hasDict] using h)
    rw [szAll_sum] at h1
    omega
  | .dict _, h => by simp only [PyData.hasDict] at h; exact nomatch h
theorem shownAll_le : ∀ xs : List PyData, PyData.hasDictAll xs = false → ((PyData.shownAll xs).map (·.length)).sum + 2 * xs.length ≤ szAll xs
  | [], _ => by simp only [PyData.shownAll, szAll]; exact Nat.le_refl _
  | x :: xs, h => by
    simp only [PyData.hasDictAll, Bool.or_eq_false_iff] at h
    have h1 := shown_le x h.1
    have h2 := shownAll_le xs h.2
    simp only [PyData.shownAll, szAll, List.map_cons, List.sum_cons, List.length_cons]
    omega
end
theorem int_len {i : Int} (h : i.natAbs < 10 ^ 40) : (Str.ofString (toString i)).length ≤ 41 := by
  rw [PySem.ofString_length]
  exact int_text_length_le10 (k := 40) (by decide) h
theorem int_log {i : Int} (h : i.natAbs < 10 ^ 40) : i.natAbs.log2 < 1920 := by
  by_cases z : i.natAbs = 0
  · rw [z]; decide
  · exact (Nat.log2_lt z).mpr (Nat.lt_of_lt_of_le h (by decide))
theorem ofStr_ok (s : String) : ∀ c ∈ (Str.ofString s).cps.toList, c < 0x110000 := by
  intro c hc
  have e : (Str.ofString s).cps.toList = s.toList.map (fun (z : Char) => z.toNat) := by
    rw [Str.ofString_eq_toList]
  rw [e] at hc
  obtain ⟨z, _, rfl⟩ := List.mem_map.mp hc
  have := z.valid
  have h2 : z.val.toNat < 0x110000 := by
    rcases this with h | h
    · exact Nat.lt_trans h (by decide)
    · exact h.2
  exact h2
end DL
set_option Elab.async false
set_option linter.all false
set_option maxRecDepth 100000
set_option maxHeartbeats 4000000
set_option autoImplicit false
namespace DL
open PySem PySem.Spec PyProof.Rows L2
def opNeS : Op2 := fun _ r1 r2 => match r1, r2 with
  | .d (.str a), .d (.str b) => some (.d (.bool (!decide (a = b))))
  | _, _ => none
theorem opNeS_ap (g : G) (a b : Str) : opNeS g (.d (.str a)) (.d (.str b)) = some (.d (.bool (!decide (a = b)))) := id rfl
def oNeS : D2 := fun r1 r2 g k => ∃ a b, r1 = .d (.str a) ∧ r2 = .d (.str b) ∧ k (.d (.bool (!decide (a = b)))) g
theorem dq_strv {B : Hp} {v : V} {z : Str} (h : Dq B v (.str z)) : v = .str z := by cases h; rfl
theorem dec_sv {a b : Str} : decide (V.str a = V.str b) = decide (a = b) := by
  rw [Bool.eq_iff_iff]
  simp
theorem ref_neS {K : KR} : RefOp K rNe oNeS := by
  rintro F g tm s H B al x y r1 r2 k Q S hx hy ⟨a, b, rfl, rfl, hk⟩ q
  cases dq_strv hx
  cases dq_strv hy
  refine ⟨rfl, ?_⟩
  rw [dec_sv]
  exact q _ H _ g B al hk S (Dq.bl _)
theorem says_neS : Says opNeS oNeS := fun r1 r2 g k r e hk => by
  unfold opNeS at e
  split at e
  · cases e; exact ⟨_, _, rfl, rfl, hk⟩
  · cases e
section
variable {ρ : Root} {X : Cx} {dx : DX} {a b : Expr} {f1 f2 : FE} {pos : Pos}
theorem qt_neS (ha : PF ρ X dx a f1) (hb : PF ρ X dx b f2) : PFT ρ X dx (.Compare a [.NotEq] [b] pos) (fTst (fOp opNeS f1 f2)) := pdt_mono (pdt_cmp op_ne (nomark _) ref_neS ha hb) (rd_tstop says_neS)
end
end DL
set_option Elab.async false
set_option linter.all false
set_option maxRecDepth 100000
set_option maxHeartbeats 4000000
set_option autoImplicit false
namespace DL
open PySem PySem.Spec PyProof.Rows L2
def dist : List Int → List Int
  | [] => []
  | a :: l => if a ∈ l then dist l else a :: dist l
theorem dist_mem (z : Int) : ∀ l : List Int, z ∈ dist l ↔ z ∈ l
  | [] => Iff.rfl
  | a :: l => by
    unfold dist
    split
    · rename_i h
      rw [dist_mem z l, List.mem_cons]
      exact ⟨.inr, fun q => q.elim (fun e => e ▸ h) id⟩
    · rw [List.mem_cons, List.mem_cons, dist_mem z l]
theorem dist_nodup : ∀ l : List Int, (dist l).Nodup
  | [] => List.nodup_nil
  | a :: l => by
    unfold dist
    split
    · exact dist_nodup l
    · rename_i h
      exact List.nodup_cons.mpr ⟨fun q => h ((dist_mem a l).mp q), dist_nodup l⟩
theorem dist_of {K ns : List Int} (nd : K.Nodup) (h : ∀ k, k ∈ K ↔ k ∈ ns) : K.length = (dist ns).length :=
  ((List.perm_ext_iff_of_nodup nd (dist_nodup ns)).mpr fun k => (h k).trans (dist_mem k ns).symm).length_eq
theorem dist_len_le : ∀ l : List Int, (dist l).length ≤ l.length
  | [] => Nat.le_refl _
  | a :: l => by
    have := dist_len_le l
    unfold dist
    split
    · rw [List.length_cons]; omega
    · rw [List.length_cons, List.length_cons]; omega
theorem dist_eq_iff : ∀ l : List Int, (dist l).length = l.length ↔ l.Nodup
  | [] => ⟨fun _ => List.nodup_nil, fun _ => rfl⟩
  | a :: l => by
    have := dist_len_le l
    unfold dist
    split
    · rename_i h
      rw [List.length_cons, List.nodup_cons]
      exact ⟨fun q => by omega, fun q => absurd h q.1⟩
    · rename_i h
      rw [List.length_cons, List.length_cons, List.nodup_cons, ← dist_eq_iff l]
      exact ⟨fun q => ⟨h, by omega⟩, fun q => by omega⟩
theorem fm_nodup (f : Nat → Int) : ∀ i, (firstMet f i).Nodup
  | 0 => by rw [firstMet_zero]; exact List.nodup_nil
  | i + 1 => by
    rw [firstMet_succ]
    unfold step_dedup
    have ih := fm_nodup f i
    split
    · exact ih
    · rename_i h
      rw [List.nodup_append]
      refine ⟨ih, by simp, fun a ha b hb => ?_⟩
      have hb : b = f i := by simpa using hb
      subst hb
      rintro rfl
      exact h (List.any_eq_true.mpr ⟨_, ha, by simp⟩)
theorem fm_len (ns : List Int) : (firstMet (fun i => ns.getD i 0) ns.length).length = (dist ns).length := by
  refine dist_of (fm_nodup _ _) fun k => ?_
  have h := firstMet_any (fun i => ns.getD i 0) ns.length k
  have e : (List.range ns.length).map (fun i => ns.getD i 0) = ns := by
    refine List.ext_getElem (by simp) fun i h1 h2 => ?_
    simp [List.getD_eq_getElem?_getD, List.getElem?_eq_getElem h2]
  rw [e] at h
  constructor
  · intro q
    have : (firstMet (fun i => ns.getD i 0) ns.length).any (· == k) = true := List.any_eq_true.mpr ⟨k, q, by simp⟩
    rw [h] at this
    obtain ⟨z, hz, e⟩ := List.any_eq_true.mp this
    have : z = k := by simpa using e
    exact this ▸ hz
  · intro q
    have : ns.any (· == k) = true := List.any_eq_true.mpr ⟨k, q, by simp⟩
    rw [← h] at this
    obtain ⟨z, hz, e⟩ := List.any_eq_true.mp this
    have : z = k := by simpa using e
    exact this ▸ hz
def tLenSet (K : PySem.W.Frag) (ta : TE) : TE := fun σ H Q => ta σ H fun x H1 => ∃ (l : Addr) (ns : List Int), x = .ref l ∧ (SqT K H1 l (ns.map V.int) ∨ SqL K H1 l (ns.map V.int)) ∧ ns.length ≤ 4000 ∧ Q (.int ((dist ns).length : Nat)) H1
theorem pe_lenSet {X : Cx} {a : Expr} {ta : TE} {p p2 q pos : Pos} (hc : X.calm = true) (hg : Gl X "len") (hm : X.mg "len" = none) (hg2 : Gl X "set") (hm2 : X.mg "set" = none) (ha : PE X a ta)
    (na : starEach [a] X.env = (false, eval a X.env) :: starEach [] X.env := by rfl) : PE X (.Call (.Name "len" p) [.Call (.Name "set" p2) [a] [] q] [] pos) (tLenSet X.K ta) := by
  refine ⟨fun pins s σ H Q I h => ?_⟩
  refine Call_ (ld_blt I hg hm PySem.boot_len ?_)
  refine PyProof.Rows.callWith_builtin1 (PyProof.Rows.args_cons ?_ rfl) rfl rfl
  refine Call_ (ld_blt I hg2 hm2 PyProof.Rows.boot_set ?_)
  refine PyProof.Rows.callWith_type1 (PyProof.Rows.args_cons (thn (ha.run pins s σ H _ I h) fun v s1 ⟨x, H1, I1, r1, q1⟩ => PyProof.Rows.args_nil ?_) na) na rfl
  obtain ⟨l, ns, rfl, hq, h1, q1⟩ := q1
  cases r1
  rcases hq with hq | hq
  · obtain ⟨its, r, pl, hz⟩ := I1.tuple hq
    refine call_set_tupI ns (I1.ok.hd hc) pl (by simpa using ints_of_vals r) (by unfold scanBound; omega) fun h' tk c hS hcn hk => ?_
    refine PyProof.Rows.args_nil ?_
    obtain ⟨o, es, ep, t, ho, hex, hd, hge, hnd, hmm, hlt, hf, hn, _⟩ := hS
    have ec : es.size = (dist ns).length := by
      rw [← dist_of hnd fun k => (hmm k).symm.trans (by simp), List.length_map, Array.length_toList]
    have I2 : Inv X pins σ H1 { s1 with heap := h', toks := tk } := I1.kept fun b o e => hk b o e
    exact call_len_set ho hex hd hf (by omega) ⟨.int ((dist ns).length : Nat), H1, I2.tok _, ⟨_, by rw [ec]⟩, q1⟩
  · obtain ⟨its, r, pl, hz⟩ := I1.list hq
    have hl : its.toArray.size = ns.length := by rw [List.size_toArray, ← r.length, List.length_map]
    refine PySem.call_set_list (I1.ok.hd hc) pl.isList (ns := ns) (by simpa using r.ints) (by unfold scanBound; omega) fun h' tk hS hk => ?_
    rw [hl] at hS
    refine PyProof.Rows.args_nil ?_
    obtain ⟨o, es, ep, t, ho, hex, hd, _, _, _, hf, hn⟩ := hS
    rw [fm_len] at hn
    have hle := dist_len_le ns
    have I2 : Inv X pins σ H1 { s1 with heap := h', toks := tk } := I1.kept fun b o e => hk b o (Heap.lt_size e) e
    exact call_len_set ho hex hd hf (by rw [hn]; omega) ⟨.int ((dist ns).length : Nat), H1, I2.tok _, ⟨_, by rw [hn]⟩, q1⟩
def lenSetK (g : G) (r : R) : Out R := match seqOf g r with
  | some (_, ds) => match asInts ds with
    | some ns => if ns.length ≤ 4000 then .ok (.d (.int ((dist ns).length : Nat))) g else .no
    | none => .no
  | none => .no
def fLenSet (f : FE) : FE := fun g => (f g).bind fun r g1 => lenSetK g1 r
theorem fLenSet_ap (f : FE) (g : G) : fLenSet f g = (f g).bind fun r g1 => lenSetK g1 r := id rfl
theorem lenSetK_of {g : G} {r : R} {t : Bool} {ns : List Int} (hs : seqOf g r = some (t, ns.map .int)) (h : ns.length ≤ 4000) : lenSetK g r = .ok (.d (.int ((dist ns).length : Nat))) g := by
  unfold lenSetK
  rw [hs]
  simp only [asInts_map]
  rw [if_pos h]
def dLenSet (da : DE) : DE := fun g k => da g fun r g1 => ∃ t ns, seqOf g1 r = some (t, ns.map .int) ∧ ns.length ≤ 4000 ∧ k (.d (.int ((dist ns).length : Nat))) g1
section
variable {ρ : Root} {X : Cx} {dx : DX} {a : Expr} {f : FE} {p p2 q0 pos : Pos}
theorem pd_lenSet {da : DE} (hc : X.calm = true) (hg : Gl X "len") (hm : X.mg "len" = none) (hg2 : Gl X "set") (hm2 : X.mg "set" = none) (ha : PD ρ X a da)
    (na : starEach [a] X.env = (false, eval a X.env) :: starEach [] X.env := by rfl) : PD ρ X (.Call (.Name "len" p) [.Call (.Name "set" p2) [a] [] q0] [] pos) (dLenSet da) :=
  pe_imp (pe_lenSet hc hg hm hg2 hm2 ha na) fun s H Q ⟨F, g, tm, k, B, al, S, hk, q⟩ =>
    ⟨F, g, tm, _, B, al, S, hk, fun v H1 r g1 B1 al1 ⟨t, ns, hs, hl, hk1⟩ S1 => by
      obtain ⟨a, xs, rfl, h1, h2⟩ := S1.seq (S1.top rfl) hs
      cases dqall_ints h2
      refine ⟨a, ns, rfl, ?_, hl, q _ H1 _ g1 B1 al1 hk1 ((S1.temps fun p hp => List.mem_cons_of_mem _ hp).push (Dq.int _))⟩
      cases t with
      | true => exact .inl h1
      | false => exact .inr h1⟩
theorem q_lenSet (hc : X.calm = true) (hg : Gl X "len") (hm : X.mg "len" = none) (hg2 : Gl X "set") (hm2 : X.mg "set" = none) (ha : PF ρ X dx a f)
    (na : starEach [a] X.env = (false, eval a X.env) :: starEach [] X.env := by rfl) : PF ρ X dx (.Call (.Name "len" p) [.Call (.Name "set" p2) [a] [] q0] [] pos) (fLenSet f) :=
  pd_mono (pd_lenSet hc hg hm hg2 hm2 ha na) fun g k h => go_mono (go_bind.mp h) fun r g1 h1 => by
    unfold lenSetK at h1
    split at h1
    · rename_i t ds hs
      split at h1
      · rename_i ns hn
        split at h1
        · rename_i hl
          have := asInts_eq hn
          subst this
          exact ⟨t, ns, hs, hl, h1⟩
        · exact h1.elim
      · exact h1.elim
    · exact h1.elim
end
end DL
set_option Elab.async false
set_option linter.all false
set_option maxRecDepth 100000
set_option maxHeartbeats 4000000
set_option autoImplicit false
namespace DL
open PySem PySem.Spec PyProof.Rows L2
section
variable (b L c : Nat)
def shG : Nat → PyData → Bool
  | _, .none => true
  | _, .bool _ => true
  | _, .int i => decide (i.natAbs < b)
  | _, .str s => decide ((reprText s).length ≤ c) && PyData.strOk s
  | n + 1, .list ds => decide (ds.length ≤ L) && ds.all (shG n)
  | n + 1, .tuple ds => decide (ds.length ≤ L) && ds.all (shG n)
  | _, _ => false
def szG : Nat → Nat
  | 0 => c
  | n + 1 => 3 + L * (szG n + 2)
end
section
variable {b L c : Nat}
theorem szG_ge (hc : 41 ≤ c) (hL : 1 ≤ L) : ∀ n, c ≤ szG L c n
  | 0 => Nat.le_refl _
  | n + 1 => by
    have h := szG_ge hc hL n
    show c ≤ 3 + L * (szG L c n + 2)
    have : 1 * (szG L c n + 2) ≤ L * (szG L c n + 2) := Nat.mul_le_mul_right _ hL
    omega
theorem shG_facts (hb : b ≤ 10 ^ 40) (hc : 41 ≤ c) (hL : 1 ≤ L) : ∀ (n : Nat) (x : PyData), shG b L c n x = true → szD x ≤ szG L c n ∧ x.hasDict = false ∧ x.showable = true ∧ x.depth ≤ n
  | n, .none, _ => ⟨by have := szG_ge hc hL n; simp only [szD]; omega, by simp only [PyData.hasDict], by simp only [PyData.showable], by simp only [PyData.depth]; omega⟩
  | n, .bool _, _ => ⟨by have := szG_ge hc hL n; simp only [szD]; omega, by simp only [PyData.hasDict], by simp only [PyData.showable], by simp only [PyData.depth]; omega⟩
  | n, .int i, h => by
    have h : i.natAbs < b := by
      have h : decide (i.natAbs < b) = true := by cases n <;> exact h
      exact of_decide_eq_true h
    have h : i.natAbs < 10 ^ 40 := Nat.lt_of_lt_of_le h hb
    refine ⟨?_, by simp only [PyData.hasDict], by simp only [PyData.showable]; exact decide_eq_true (int_log h), by simp only [PyData.depth]; omega⟩
    have := szG_ge hc hL n
    have := int_len h
    simp only [szD]
    omega
  | n, .str s, h => by
    have h : (decide ((reprText s).length ≤ c) && PyData.strOk s) = true := by cases n <;> exact h
    rw [Bool.and_eq_true] at h
    have h1 := of_decide_eq_true h.1
    have := szG_ge hc hL n
    exact ⟨by simp only [szD]; omega, by simp only [PyData.hasDict], by simp only [PyData.showable], by simp only [PyData.depth]; omega⟩
  | 0, .list ds, h => by cases h
  | 0, .tuple ds, h => by cases h
  | 0, .dict ds, h => by cases h
  | n + 1, .dict ds, h => by cases h
  | n + 1, .list ds, h => by
    have h : (decide (ds.length ≤ L) && ds.all (shG b L c n)) = true := h
    rw [Bool.and_eq_true, decide_eq_true_eq, List.all_eq_true] at h
    obtain ⟨a1, a2, a3, a4⟩ := all_ hb hc hL n ds h.2
    refine ⟨?_, by simp only [PyData.hasDict]; exact a2, by simp only [PyData.showable]; exact a3, by simp only [PyData.depth]; omega⟩
    simp only [szD]
    show _ ≤ 3 + L * (szG L c n + 2)
    have := Nat.mul_le_mul_right (szG L c n + 2) h.1
    omega
  | n + 1, .tuple ds, h => by
    have h : (decide (ds.length ≤ L) && ds.all (shG b L c n)) = true := h
    rw [Bool.and_eq_true, decide_eq_true_eq, List.all_eq_true] at h
    obtain ⟨a1, a2, a3, a4⟩ := all_ hb hc hL n ds h.2
    refine ⟨?_, by simp only [PyData.hasDict]; exact a2, by simp only [PyData.showable]; exact a3, by simp only [PyData.depth]; omega⟩
    simp only [szD]
    show _ ≤ 3 + L * (szG L c n + 2)
    have := Nat.mul_le_mul_right (szG L c n + 2) h.1
    omega
where
  all_ (hb : b ≤ 10 ^ 40) (hc : 41 ≤ c) (hL : 1 ≤ L) (n : Nat) : ∀ ds : List PyData, (∀ d ∈ ds, shG b L c n d = true) → szAll ds ≤ ds.length * (szG L c n + 2) ∧ PyData.hasDictAll ds = false ∧ PyData.showableAll ds = true ∧ PyData.depthAll ds ≤ n
  | [], _ => ⟨by simp only [szAll]; omega, by simp only [PyData.hasDictAll], by simp only [PyData.showableAll], by simp only [PyData.depthAll]; omega⟩
  | d :: ds, h => by
    obtain ⟨a1, a2, a3, a4⟩ := shG_facts hb hc hL n d (h d (by simp))
    obtain ⟨b1, b2, b3, b4⟩ := all_ hb hc hL n ds fun z hz => h z (by simp [hz])
    refine ⟨?_, by simp only [PyData.hasDictAll, a2, b2, Bool.or_self], by simp only [PyData.showableAll, a3, b3, Bool.and_self], by simp only [PyData.depthAll]; omega⟩
    simp only [szAll, List.length_cons, Nat.add_mul]
    omega
theorem reprOk_G {n : Nat} {x : PyData} (hb : b ≤ 10 ^ 40) (hc : 41 ≤ c) (hL : 1 ≤ L) (hs : szG L c n ≤ 16000000) (hn : n ≤ 60) (h : shG b L c n x = true) : reprOk x = true := by
  obtain ⟨h1, h2, h3, h4⟩ := shG_facts hb hc hL n x h
  have h5 := shown_le x h2
  simp only [reprOk, Bool.and_eq_true, decide_eq_true_eq]
  exact ⟨⟨h3, by rw [sizeLine_eq]; omega⟩, by omega⟩
theorem shG_int {n : Nat} {i : Int} (h : i.natAbs < b) : shG b L c n (.int i) = true := by
  cases n <;> exact decide_eq_true h
theorem shG_intv {n : Nat} {i : Int} (h : shG b L c n (.int i) = true) : i.natAbs < b := by
  have h : decide (i.natAbs < b) = true := by cases n <;> exact h
  exact of_decide_eq_true h
theorem shG_q {n : Nat} {x : PyData} {ds : List PyData} (hx : Sq x ds) (h : ds.length ≤ L) (ha : ∀ d ∈ ds, shG b L c n d = true) : shG b L c (n + 1) x = true := by
  have : (decide (ds.length ≤ L) && ds.all (shG b L c n)) = true := by
    rw [Bool.and_eq_true, List.all_eq_true]
    exact ⟨decide_eq_true h, ha⟩
  rcases hx with rfl | rfl <;> exact this
theorem shG_in {n : Nat} {x : PyData} {ds : List PyData} (hx : Sq x ds) (h : shG b L c (n + 1) x = true) : ds.length ≤ L ∧ ∀ d ∈ ds, shG b L c n d = true := by
  have : (decide (ds.length ≤ L) && ds.all (shG b L c n)) = true := by rcases hx with rfl | rfl <;> exact h
  rw [Bool.and_eq_true, List.all_eq_true, decide_eq_true_eq] at this
  exact this
/-- wider bounds, more levels -/
theorem shG_mono {b' L' : Nat} (hb : b ≤ b') (hL : L ≤ L') : ∀ (n m : Nat) (x : PyData), n ≤ m → shG b L c n x = true → shG b' L' c m x = true
  | n, m, .none, _, _ => by cases m <;> rfl
  | n, m, .bool _, _, _ => by cases m <;> rfl
  | n, m, .int i, _, h => shG_int (Nat.lt_of_lt_of_le (shG_intv h) hb)
  | n, m, .str s, _, h => by
    have h : (decide ((reprText s).length ≤ c) && PyData.strOk s) = true := by cases n <;> exact h
    cases m <;> exact h
  | 0, m, .list ds, _, h => by cases h
  | 0, m, .tuple ds, _, h => by cases h
  | 0, m, .dict ds, _, h => by cases h
  | n + 1, m, .dict ds, _, h => by cases h
  | n + 1, 0, .list ds, hm, _ => by omega
  | n + 1, 0, .tuple ds, hm, _ => by omega
  | n + 1, m + 1, .list ds, hm, h => by
    obtain ⟨h1, h2⟩ := shG_in sqL h
    exact shG_q sqL (by omega) fun d hd => shG_mono hb hL n m d (by omega) (h2 d hd)
  | n + 1, m + 1, .tuple ds, hm, h => by
    obtain ⟨h1, h2⟩ := shG_in sqT h
    exact shG_q sqT (by omega) fun d hd => shG_mono hb hL n m d (by omega) (h2 d hd)
theorem shG_z {n : Nat} {x : PyData} {l : List Int} (hx : Sq x (zD l)) (hl : l.length ≤ L) (hb : ∀ z ∈ l, z.natAbs < b) : shG b L c (n + 1) x = true :=
  shG_q hx (by rw [List.length_map]; exact hl) fun d hd => by
    obtain ⟨z, hz, rfl⟩ := List.mem_map.mp hd
    exact shG_int (hb z hz)
theorem reprI_G {i : Int} (h : i.natAbs < 10 ^ 40) : (reprText (toString i)).length ≤ 420 ∧ PyData.strOk (toString i) = true := by
  have h1 : (Str.ofString (toString i)).length ≤ 41 := int_len h
  have h2 := ofStr_ok (toString i)
  refine ⟨?_, ?_⟩
  · have := StrLaws.reprText_len (Str.ofString (toString i)) fun c hc => Nat.lt_trans (h2 c hc) (by decide)
    show (reprText (Str.ofString (toString i))).length ≤ 420
    omega
  · show (Str.ofString (toString i)).cps.all (· < 0x110000) = true
    rw [Array.all_eq_true_iff_forall_mem]
    intro c hc
    exact decide_eq_true (h2 c (Array.mem_toList_iff.mpr hc))
end
end DL
set_option Elab.async false
set_option linter.all false
set_option maxRecDepth 100000
set_option maxHeartbeats 4000000
set_option autoImplicit false
namespace DL
open PySem PySem.Spec PyProof.Rows L2
end DL
set_option Elab.async false
set_option linter.all false
set_option maxRecDepth 100000
set_option maxHeartbeats 4000000
set_option autoImplicit false
namespace DL
open PySem PySem.Spec PyProof.Rows L2
end DL
set_option Elab.async false
set_option linter.all false
set_option maxRecDepth 100000
set_option maxHeartbeats 4000000
set_option autoImplicit false
namespace DL
open PySem PySem.Spec PyProof.Rows L2
def loanO (g : G) : Option R → Option R
  | some r => match loanR g r with
    | some x => some (.d x)
    | none => some r
  | none => none
def gLoan (g : G) : G := ⟨g.sl.map (loanO g), g.ce.map fun _ => .dead⟩
def loanK (g : G) : Out R → Out R
  | .ok (.d x) _ => if isSc x = true then .ok (.d x) g else .no
  | _ => .no
def fLoan (f : FE) : FE := fun g => loanK g (f (gLoan g))
theorem fLoan_ap (f : FE) (g : G) : fLoan f g = loanK g (f (gLoan g)) := id rfl
theorem loanK_ok (g g' : G) {x : PyData} (h : isSc x = true) : loanK g (.ok (.d x) g') = .ok (.d x) g := by
  show (if isSc x = true then (.ok (.d x) g : Out R) else .no) = _
  rw [if_pos h]
theorem loanO_d (g : G) (x : PyData) : loanO g (some (.d x)) = some (.d x) := rfl
theorem loanO_o {g : G} {j : Nat} {ds : List PyData} (h : g.ce[j]? = some (.lst ds)) : loanO g (some (.o j)) = some (.d (.list ds)) := by
  show (match lstAt g j with
    | some x => some (R.d x)
    | none => some (.o j)) = _
  unfold lstAt
  rw [h]
section
variable {ρ : Root} {X : Cx} {dx : DX} {e : Expr} {f : FE} {K : KR} {F : Fm} {g : G} {tm : List (V × R)} {s : L2.St} {H B : Hp} {al : List Addr}
theorem Stt.lend (S : Stt K F g tm s H B al) : Stt K ⟨allB H B al, F.O, F.P⟩ (gLoan g) tm s H (allB H B al) al := by
  have S0 := S.loan
  have eB := allB_same (al := al) S.bh
  refine { rb := S.rb.trans (S.fb.trans eB), ro := S.ro, rp := S.rp, ot := S.ot, fb := Same.refl _, bh := S0.bh, fo := S0.fo, pre := S0.pre, len := S0.len, nd := S0.nd, lv := S0.lv, nb := S0.nb, ce := S0.ce, sl := ?_, tm := S0.tm, sln := (by show (g.sl.map _).length = _; rw [List.length_map]; exact S.sln) }
  intro i r e
  have e : (g.sl.map (loanO g))[i]? = some (some r) := e
  rw [List.getElem?_map] at e
  cases h : g.sl[i]? with
  | none => rw [h] at e; cases e
  | some o =>
    rw [h] at e
    have e : loanO g o = some r := Option.some.inj e
    cases o with
    | none => cases e
    | some q =>
      obtain ⟨v, h1, h2⟩ := S.sl i q h
      refine ⟨v, h1, ?_⟩
      cases hl : loanR g q with
      | none =>
        have : loanO g (some q) = some q := by
          show (match loanR g q with
            | some x => some (R.d x)
            | none => some q) = _
          rw [hl]
        rw [this] at e
        cases e
        exact rv_mono0 eB h2
      | some x =>
        have : loanO g (some q) = some (.d x) := by
          show (match loanR g q with
            | some x => some (R.d x)
            | none => some q) = _
          rw [hl]
        rw [this] at e
        cases e
        exact dq_loan S h2 hl
theorem Stt.unlend (S : Stt K F g tm s H B al) {g' : G} {tm' : List (V × R)} {H' B' : Hp} {al' : List Addr} (S' : Stt K ⟨allB H B al, F.O, F.P⟩ g' tm' s H' B' al') : Stt K F g tm s H' B al := by
  have e1 : Same (allB H B al) H' := S'.fb.trans S'.bh
  have eB := allB_same (al := al) S.bh
  have own : ∀ a ∈ al, ∀ o, H a = some o → H' a = some o := fun a ha o e => e1 a o (by rw [allB_in ha]; exact e)
  refine { rb := S.rb, ro := S.ro, rp := S.rp, ot := S.ot, fb := S.fb, bh := eB.trans e1, fo := ?_, pre := S.pre, len := S.len, nd := S.nd, lv := ?_, nb := S.nb, ce := ?_, sl := S.sl, tm := S.tm, sln := S.sln }
  · intro a o e
    obtain ⟨q1, q2, q3⟩ := S.fo a o e
    exact ⟨(S'.fo a o e).1, q2, q3⟩
  · intro a ha
    obtain ⟨o, e⟩ := S.lv a ha
    exact ⟨o, own a ha o e⟩
  · intro j a ct e2 e3
    exact ct_mono0 (Same.refl _) (fun o e => own a (List.mem_of_getElem? e2) o e) (S.ce j a ct e2 e3)
theorem q_loan (h : PF ρ X dx e f) : PF ρ X dx e (fLoan f) := pe_imp h fun s H Q ⟨F, g, tm, k, B, al, S, hk, q⟩ =>
  ⟨⟨allB H B al, F.O, F.P⟩, gLoan g, tm, fun r _ => ∃ x, r = .d x ∧ isSc x = true ∧ k (.d x) g, allB H B al, al, S.lend, (by
    have hk : (loanK g (f (gLoan g))).go dx k := hk
    show (f (gLoan g)).go dx _
    cases hf : f (gLoan g) with
    | no => rw [hf] at hk; exact hk
    | ex n g' => rw [hf] at hk; exact hk.elim
    | ok r g' =>
      rw [hf] at hk
      cases r with
      | d x =>
        have hk : (if isSc x = true then (.ok (.d x) g : Out R) else .no).go dx k := hk
        by_cases hs : isSc x = true
        · rw [if_pos hs] at hk
          exact ⟨x, rfl, hs, hk⟩
        · rw [if_neg hs] at hk
          exact hk.elim
      | _ => exact hk.elim), fun v H' r g' B' al' ⟨x, er, hs, hk'⟩ S' => by
    subst er
    exact q v H' (.d x) g B al hk' ((S.unlend S').push (dq_sc hs (S'.top rfl)))⟩
end
end DL
set_option Elab.async false
set_option linter.all false
set_option maxRecDepth 100000
set_option maxHeartbeats 4000000
set_option autoImplicit false
namespace DL
open PySem PySem.Spec PyProof.Rows L2
end DL
set_option Elab.async false
set_option linter.all false
set_option maxRecDepth 100000
set_option maxHeartbeats 4000000
set_option autoImplicit false
namespace DL
open PySem PySem.Spec PyProof.Rows L2
def pairOf : PyData → Option (Key × PyData)
  | .tuple [a, b] => (keyOf a).map fun k => (k, b)
  | _ => none
def pairsOf : List PyData → Option (List (Key × PyData))
  | [] => some []
  | d :: ds => match pairOf d, pairsOf ds with
    | some k, some r => some (k :: r)
    | _, _ => none
end DL
set_option Elab.async false
set_option linter.all false
set_option maxRecDepth 100000
set_option maxHeartbeats 4000000
set_option autoImplicit false
namespace DL
open PySem PySem.Spec PyProof.Rows L2
end DL
set_option Elab.async false
set_option linter.all false
set_option maxRecDepth 100000
set_option maxHeartbeats 4000000
set_option autoImplicit false
namespace DL
open PySem PySem.Spec PyProof.Rows L2
end DL
set_option Elab.async false
set_option linter.all false
set_option maxRecDepth 100000
set_option maxHeartbeats 4000000
set_option autoImplicit false
namespace DL
open PySem PySem.Spec PyProof.Rows L2 PySem.W
def leL : List Int → List Int → Bool
  | [], _ => true
  | _ :: _, [] => false
  | x :: a, y :: b => decide (x < y) || (decide (x = y) && leL a b)
theorem leL_cons (x y : Int) (a b : List Int) : leL (x :: a) (y :: b) = true ↔ x < y ∨ (x = y ∧ leL a b = true) := by
  show (decide (x < y) || (decide (x = y) && leL a b)) = true ↔ _
  rw [Bool.or_eq_true, Bool.and_eq_true, decide_eq_true_iff, decide_eq_true_iff]
theorem leL_total : ∀ a b : List Int, (leL a b || leL b a) = true
  | [], b => by simp [leL]
  | x :: a, [] => by simp [leL]
  | x :: a, y :: b => by
    have := leL_total a b
    rw [Bool.or_eq_true] at this ⊢
    rw [leL_cons, leL_cons]
    rcases Int.lt_trichotomy x y with h | h | h
    · exact .inl (.inl h)
    · rcases this with t | t
      · exact .inl (.inr ⟨h, t⟩)
      · exact .inr (.inr ⟨h.symm, t⟩)
    · exact .inr (.inl h)
theorem leL_trans : ∀ a b c : List Int, leL a b = true → leL b c = true → leL a c = true
  | [], _, _, _, _ => rfl
  | x :: a, [], c, h, _ => by cases h
  | x :: a, y :: b, [], _, h => by cases h
  | x :: a, y :: b, z :: c, h1, h2 => by
    rw [leL_cons] at h1 h2 ⊢
    rcases h1 with h1 | ⟨h1, k1⟩ <;> rcases h2 with h2 | ⟨h2, k2⟩
    · exact .inl (by omega)
    · exact .inl (by omega)
    · exact .inl (by omega)
    · exact .inr ⟨by omega, leL_trans a b c k1 k2⟩
theorem leL_anti : ∀ a b : List Int, leL a b = true → leL b a = true → a = b
  | [], [], _, _ => rfl
  | [], _ :: _, _, h => by cases h
  | _ :: _, [], h, _ => by cases h
  | x :: a, y :: b, h1, h2 => by
    rw [leL_cons] at h1 h2
    rcases h1 with h1 | ⟨h1, k1⟩ <;> rcases h2 with h2 | ⟨h2, k2⟩
    · omega
    · omega
    · omega
    · rw [h1, leL_anti a b k1 k2]
theorem leL_of_lex : ∀ a b : List Int, HT.lexLt b a = false → leL a b = true
  | [], _, _ => rfl
  | x :: a, [], h => by cases h
  | x :: a, y :: b, h => by
    rw [HT.lexLt_cons] at h
    rw [leL_cons]
    by_cases e : y = x
    · rw [if_pos e] at h
      exact .inr ⟨e.symm, leL_of_lex a b h⟩
    · rw [if_neg e] at h
      have := of_decide_eq_false h
      exact .inl (by omega)
def srtL (l : List (List Int)) : List (List Int) := l.mergeSort leL
theorem srtL_perm (l : List (List Int)) : (srtL l).Perm l := List.mergeSort_perm _ _
theorem srtL_sorted (l : List (List Int)) : (srtL l).Pairwise (fun a b => leL a b = true) := List.pairwise_mergeSort (le := leL) leL_trans leL_total l
theorem srtL_eq {nss l : List (List Int)} (hp : l.Perm nss) (h : l.Pairwise (fun a b => leL a b = true)) : srtL nss = l :=
  ((srtL_perm nss).trans hp.symm).eq_of_pairwise (fun a b _ _ h1 h2 => leL_anti a b h1 h2) (srtL_sorted nss) h
theorem items_ints : ∀ {vs : List Value} {ns : List Int} (i : Nat), IntsAre vs ns → tupItems (fun _ => false) i vs = some (ns.map Sum.inl)
  | [], [], i, h => rfl
  | _, _, i, h => by
    cases h
    · rfl
    · rename_i h
      simp only [tupItems]
      rw [items_ints (i + 1) (by assumption)]
      rfl
theorem blt_ints : ∀ (a b : List Int), (listOrd itemOrd).blt (a.map Sum.inl) (b.map Sum.inl) = HT.lexLt a b
  | [], [] => rfl
  | [], _ :: _ => rfl
  | _ :: _, [] => rfl
  | x :: a, y :: b => by
    have ih := blt_ints a b
    show PyProof.Rows.lexLt itemOrd (Sum.inl x :: a.map Sum.inl) (Sum.inl y :: b.map Sum.inl) = HT.lexLt (x :: a) (y :: b)
    have ih : PyProof.Rows.lexLt itemOrd (a.map Sum.inl) (b.map Sum.inl) = HT.lexLt a b := ih
    rw [HT.lexLt_cons]
    simp only [PyProof.Rows.lexLt]
    rw [ih]
    simp only [itemOrd, itemLt]
    by_cases e : x = y
    · subst e; simp
    · rw [if_neg e]
      rcases Int.lt_trichotomy x y with h | h | h
      · simp [h]
      · exact absurd h e
      · simp [show ¬ x < y by omega, h]
abbrev sh0 : Nat → Bool := fun _ => false
theorem key_ints {h : Heap} {v : Value} {ns : List Int} (t : TS.TupInts h v ns) : G.tupKeyC h sh0 v = some (ns.map Sum.inl) := by
  obtain ⟨a, xs, rfl, ⟨o, ho, hc, n, hd⟩, hi⟩ := t
  unfold G.tupKeyC
  have e1 : G.isTupObj h (.ref a) = true := by
    simp only [G.isTupObj, ho, hc]
    rfl
  rw [if_pos e1]
  simp only [tupKey, ho, hd]
  exact items_ints 0 hi
theorem tups_ints {h : Heap} : ∀ {vs : List Value}, (∀ v ∈ vs, ∃ ns, TS.TupInts h v ns ∧ ns ≠ []) → ∃ fs, TupsOf h sh0 vs fs
  | [], _ => ⟨[], .nil⟩
  | v :: vs, hv => by
    obtain ⟨fs, i⟩ := tups_ints (vs := vs) fun u hu => hv u (List.mem_cons_of_mem _ hu)
    obtain ⟨ns, ⟨a, xs, e, ⟨o, ho, hc, n, hd⟩, hi⟩, ne⟩ := hv v List.mem_cons_self
    cases ns with
    | nil => exact absurd rfl ne
    | cons m ms =>
      obtain ⟨u, us, eu⟩ : ∃ u us, xs.toList = u :: us := by
        cases hx : xs.toList with
        | nil => rw [hx] at hi; cases hi
        | cons u us => exact ⟨u, us, rfl⟩
      have h0 : xs[0]? = some u := by
        rw [← Array.getElem?_toList, eu]; rfl
      rw [eu] at hi
      cases hi with
      | cons m t hi => exact ⟨_, .cons ⟨a, o, xs, n, e, ho, hc, hd, h0, fun _ => ⟨m, t, rfl⟩, fun z => by cases z⟩ i⟩
theorem out_ints {h : Heap} {vs : List Value} {st : SortSt} (hv : ∀ v ∈ vs, ∃ ns, TS.TupInts h v ns) (hp : (arrOf st).Perm (PyProof.Rows.pairsOf vs)) (hs : SortedToK (G.tupKindC h sh0) (arrOf st) (PyProof.Rows.pairsOf vs).size) :
    ((arrOf st).map (·.2)).toList.Perm vs ∧ ((arrOf st).map (·.2)).toList.Pairwise (fun u v => ∀ n m, TS.TupInts h u n → TS.TupInts h v m → HT.lexLt m n = false) := by
  have hp := Array.perm_iff_toList_perm.mp hp
  have ez : (PyProof.Rows.pairsOf vs).toList = vs.zip vs := by simp [PyProof.Rows.pairsOf]
  rw [ez] at hp
  have ef : ∀ p ∈ (arrOf st).toList, p.1 = p.2 ∧ p.2 ∈ vs := fun p hm => by
    have := hp.mem_iff.mp hm
    have z : ∀ (l : List Value), p ∈ l.zip l → p.1 = p.2 ∧ p.2 ∈ l := fun l => by
      induction l with
      | nil => intro h; cases h
      | cons x l ih =>
        intro h
        rcases List.mem_cons.mp h with rfl | h
        · exact ⟨rfl, List.mem_cons_self⟩
        · exact ⟨(ih h).1, List.mem_cons_of_mem _ (ih h).2⟩
    exact z vs this
  have es : ∀ l : List Value, (l.zip l).map (·.2) = l := fun l => by
    induction l with
    | nil => rfl
    | cons x l ih => simp [ih]
  refine ⟨?_, ?_⟩
  · rw [Array.toList_map]
    have := hp.map (·.2)
    rw [es] at this
    exact this
  · rw [Array.toList_map, List.pairwise_map, List.pairwise_iff_getElem]
    intro i j hi hj hij n m hn hm
    have sz : (PyProof.Rows.pairsOf vs).size = (arrOf st).toList.length := by
      rw [← Array.length_toList, ez, hp.length_eq]
    have k := hs i j (by omega) (by rw [sz]; exact hj)
    have ki : ∀ (i : Nat) (hi : i < (arrOf st).toList.length) (n : List Int), TS.TupInts h ((arrOf st).toList[i]).2 n → KK (G.tupKindC h sh0) (arrOf st) i = n.map Sum.inl := fun i hi n hn => by
      have e0 : (arrOf st)[i]? = some ((arrOf st).toList[i]) := by rw [← Array.getElem?_toList, List.getElem?_eq_getElem hi]
      unfold KK
      rw [e0]
      have e1 : ((arrOf st).toList[i]).1 = ((arrOf st).toList[i]).2 := (ef _ (List.getElem_mem hi)).1
      show ((G.tupKeyC h sh0 ((arrOf st).toList[i]).1).getD []) = _
      rw [e1, key_ints hn]
      rfl
    rw [ki i hi n hn, ki j hj m hm] at k
    have k : (listOrd itemOrd).blt (m.map Sum.inl) (n.map Sum.inl) = false := k
    rw [blt_ints] at k
    exact k
theorem pw_short {α : Type} {P : α → α → Prop} {l : List α} (h : l.length < 2) : l.Pairwise P := by
  match l, h with
  | [], _ => exact .nil
  | [_], _ => exact List.pairwise_singleton _ _
theorem swo_no : SrtO.Swo (fun _ _ : Value => false) := ⟨fun _ _ _ => rfl, fun _ _ _ _ _ => rfl⟩
theorem sort_list {prog : Program} {w : World} {A : Around} {E : Value → Shared → Prop} {s : Shared} {a : Addr} {vs : List Value} {n : Nat} {R : PySem.Fin → Shared → Prop} (at1 : s.heap.get? a = some (seqObj "list" vs.toArray n)) (hv : ∀ v ∈ vs, ∃ ns, TS.TupInts s.heap v ns) (hne : vs.length < 2 ∨ ∀ v ∈ vs, ∃ ns, TS.TupInts s.heap v ns ∧ ns ≠ []) (hz : vs.length ≤ sizeLine)
    (k : ∀ out : Array Value, out.toList.Perm vs → out.toList.Pairwise (fun u v => ∀ n m, TS.TupInts s.heap u n → TS.TupInts s.heap v m → HT.lexLt m n = false) → R (Fin.done (Flow.ret Value.none)) { heap := sortedHeap s.heap a vs out, gens := s.gens, drawn := s.drawn, toks := s.toks, os := s.os }) :
    wpAny (model prog w) A (Builtin.«list.sort» { pos := [Value.ref a] }) R E s := by
  rcases hne with h2 | tv
  · refine SrtO.list_sort_ord swo_no at1 hz (fun h => absurd h (by omega)) fun out _ h3 => k out.toArray (by simpa using h3.perm) (pw_short ?_)
    show out.length < 2
    rw [h3.perm.length_eq]; exact h2
  · obtain ⟨fs, hfs⟩ := tups_ints tv
    refine G.list_sort_tups at1 hfs (fun v hv => by
      obtain ⟨ns, t, _⟩ := tv v hv
      exact ⟨_, key_ints t⟩) hz fun st hp hs' _ => ?_
    obtain ⟨o1, o2⟩ := out_ints hv hp hs'
    exact k _ o1 o2
theorem sorted_list {prog : Program} {w : World} {A : Around} {E : Value → Shared → Prop} {s : Shared} {l : Addr} {vs : List Value} {Q : Value → Shared → Prop} (hl : s.heap.IsList l vs.toArray) (hv : ∀ v ∈ vs, ∃ ns, TS.TupInts s.heap v ns) (hne : vs.length < 2 ∨ ∀ v ∈ vs, ∃ ns, TS.TupInts s.heap v ns ∧ ns ≠ []) (hz : vs.length ≤ sizeLine)
    (k : ∀ out : Array Value, out.toList.Perm vs → out.toList.Pairwise (fun u v => ∀ n m, TS.TupInts s.heap u n → TS.TupInts s.heap v m → HT.lexLt m n = false) → Q (Value.ref (s.heap.objs.size + 1)) { heap := sortedAll s.heap vs out, gens := s.gens, drawn := s.drawn, toks := s.toks, os := s.os }) :
    wpAny (model prog w) A (call (Value.builtin "sorted") [Value.ref l]) Q E s := by
  rcases hne with h2 | tv
  · refine SrtO.sorted_ord swo_no hl hz (fun h => absurd h (by omega)) fun out _ h3 => k out.toArray (by simpa using h3.perm) (pw_short ?_)
    show out.length < 2
    rw [h3.perm.length_eq]; exact h2
  · obtain ⟨fs, hfs⟩ := tups_ints tv
    refine G.sorted_tups hl hfs (fun v hv => by
      obtain ⟨ns, t, _⟩ := tv v hv
      exact ⟨_, key_ints t⟩) hz fun st hp hs' _ => ?_
    obtain ⟨o1, o2⟩ := out_ints hv hp hs'
    exact k _ o1 o2
theorem vals_ints : ∀ {ns : List Int} {us : List Value}, Vals (ns.map V.int) us → IntsAre us ns
  | [], us, h => by cases h; exact .nil
  | n :: ns, us, h => by
    cases h with
    | cons h t =>
      obtain ⟨tk, rfl⟩ := h
      exact .cons _ _ (vals_ints t)
def rSortDT : List V → Hp → VK → Prop := fun vs H Q => ∃ (a : Addr) (kvs : List (List L2.Key × V)) (nss : List (List Int)), vs = [V.ref a] ∧ Rd H a (.dT kvs) ∧ kvs.map (·.1) = nss.map (·.map Sum.inl) ∧ (nss.length < 2 ∨ ∀ ns ∈ nss, ns ≠ []) ∧
  ∀ (bs ys : List Addr) (p : Addr), IsKeys H kvs bs → ys.Perm bs → ys.Pairwise (fun t u => ∀ n m : List Int, H t = some (.tup (n.map V.int)) → H u = some (.tup (m.map V.int)) → HT.lexLt m n = false) → H p = none → Q (.ref p) (upd H p (.lst (ys.map V.ref)))
def rSortLT (K : PySem.W.Frag) : List V → Hp → VK → Prop := fun vs H Q => ∃ (a : Addr) (xs : List V), vs = [V.ref a] ∧ SqL K H a xs ∧ (∀ x ∈ xs, ∃ (t : Addr) (ns : List Int), x = V.ref t ∧ SqT K H t (ns.map V.int)) ∧ (xs.length < 2 ∨ ∀ x ∈ xs, ∃ (t : Addr) (ns : List Int), x = V.ref t ∧ SqT K H t (ns.map V.int) ∧ ns ≠ []) ∧
  ∀ (ys : List V) (p : Addr), ys.Perm xs → ys.Pairwise (fun x y => ∀ (t u : Addr) (n m : List Int), x = V.ref t → y = V.ref u → SqT K H t (n.map V.int) → SqT K H u (m.map V.int) → HT.lexLt m n = false) → H p = none → Q (.ref p) (upd H p (.lst ys))
section
variable {X : Cx}
theorem get_lt {h : Heap} {b : Addr} {o : Obj} (e : h.get? b = some o) : b < h.objs.size := by
  unfold Heap.get? at e
  cases hb : h.objs[b]? with
  | none => rw [hb] at e; cases e
  | some x => exact (Array.getElem?_eq_some_iff.mp hb).1
theorem kv_int : ∀ {k : List L2.Key} {ns : List Int}, k = ns.map Sum.inl → k.map kV = ns.map V.int
  | _, ns, rfl => by rw [List.map_map]; rfl
theorem isk_get {H : Hp} : ∀ {kvs : List (List L2.Key × V)} {bs : List Addr} {nss : List (List Int)}, IsKeys H kvs bs → kvs.map (·.1) = nss.map (·.map Sum.inl) → ∀ b ∈ bs, ∃ ns : List Int, H b = some (.tup (ns.map V.int)) ∧ ns ∈ nss
  | [], _, [], .nil, _, b, hb => by cases hb
  | [], _, _ :: _, .nil, e, b, hb => by cases hb
  | kv :: kvs, b0 :: bs, [], .cons h t, e, b, hb => by cases e
  | kv :: kvs, b0 :: bs, ns :: nss, .cons h t, e, b, hb => by
    have e1 : kv.1 = ns.map Sum.inl := (List.cons.inj e).1
    rcases List.mem_cons.mp hb with e' | hb
    · subst e'
      refine ⟨ns, ?_, List.mem_cons_self⟩
      rw [← kv_int e1]
      exact h
    · obtain ⟨m, h1, h2⟩ := isk_get t (List.cons.inj e).2 b hb
      exact ⟨m, h1, List.mem_cons_of_mem _ h2⟩
theorem tup_ints {pins : List (Addr × Obj)} {σ : L2.St} {H : Hp} {s : Shared} (I : L2.Inv X pins σ H s) {t : Addr} {ns : List Int} (h : SqT X.K H t (ns.map V.int)) : TS.TupInts s.heap (.ref t) ns := by
  obtain ⟨its, rv, hT, _⟩ := I.tuple h
  exact ⟨t, its.toArray, rfl, hT, by simpa using vals_ints rv⟩
theorem tupInts_old {h h' : Heap} (k : ∀ (b : Addr) (u : Obj), h.get? b = some u → h'.get? b = some u) {v : Value} {ns : List Int} (t : TS.TupInts h v ns) : TS.TupInts h' v ns := by
  obtain ⟨a, xs, e, ⟨o, ho, r⟩, hi⟩ := t
  exact ⟨a, xs, e, ⟨o, k _ _ ho, r⟩, hi⟩
theorem cr_sortDT (hc : X.calm = true) : CallR X (.builtin "sorted") rSortDT := by
  intro pins s σ H vs us Q I r q
  obtain ⟨a, kvs, nss, rfl, hd, ek, ne, q⟩ := q
  rw [Vals.ref1 r]
  obtain ⟨z, hs, ks, pr, o, es, ep, ho, hx, hdt, he, hn⟩ := Rd.ok hd I.hok
  have l1 := size_of_entries he
  have l2 := Paired.length pr
  have hz : es.size ≤ sizeLine := by omega
  refine Calls.call_function_entry kind_sorted plain_sorted entry_sorted (args_sorted1 (Value.ref a)) ?_
  refine wpAny_bind (wpAny_pure (wpAny_bind (W.kdu_collect (kdl_raw hs hx hdt) (I.ok.hd hc) ho hz fun h' tk acc hk hacc => ?_)))
  have ea : acc.toList = (ks.map fun x => x.2.1).map Value.ref := by
    have la : acc.toList.length = ks.length := by rw [Array.length_toList, hacc.1, l1]
    refine List.ext_getElem? fun j => ?_
    rw [List.map_map, List.getElem?_map]
    cases hj : acc.toList[j]? with
    | none =>
      have : ks[j]? = none := by rw [List.getElem?_eq_none_iff] at hj ⊢; omega
      rw [this]; rfl
    | some v =>
      obtain ⟨en, e1, e2⟩ := hacc.2 j v (by rw [← Array.getElem?_toList]; exact hj)
      rw [← Array.getElem?_toList, he, List.getElem?_map] at e1
      cases hk' : ks[j]? with
      | none => rw [hk'] at e1; cases e1
      | some k =>
        rw [hk'] at e1
        cases e1
        rw [e2]
        rfl
  have I1 := I.kept (t' := tk) hk
  have ib : IsKeys H kvs (ks.map fun x => x.2.1) := by
    have gen : ∀ {kvs : List (List L2.Key × V)} {ks : List (List L2.Key × Addr × Value)}, Paired (fun p q => p.1 = q.1 ∧ H q.2.1 = some (HO.tup (List.map kV p.1)) ∧ L2.RelV p.2 q.2.2) kvs ks → IsKeys H kvs (ks.map fun x => x.2.1) := fun h => by
      induction h with
      | nil => exact .nil
      | cons a _ ih => exact .cons a.2.1 ih
    exact gen pr
  obtain ⟨bs, eb⟩ : ∃ bs, (ks.map fun x => x.2.1) = bs := ⟨_, rfl⟩
  have lb : bs.length = ks.length := by rw [← eb, List.length_map]
  rw [eb] at ea ib
  rw [ea]
  have hb := isk_get ib ek
  refine wpAny_bind (wpAny_newList ?_ (by rw [List.length_map]; omega))
  obtain ⟨h1, eh1⟩ : ∃ h1, h'.push { cls := Value.type "list", data := Data.seq (List.map Value.ref bs).toArray } = h1 := ⟨_, rfl⟩
  have k1 : ∀ (b : Addr) (u : Obj), h'.get? b = some u → h1.get? b = some u := fun b u e => by
    rw [← eh1]; exact Heap.get?_push_of_some _ e
  have at1 : h1.get? h'.objs.size = some (seqObj "list" (bs.map Value.ref).toArray 0) := by rw [← eh1]; simp [Heap.push, Heap.get?, seqObj]
  have tv : ∀ v ∈ bs.map Value.ref, ∃ ns, TS.TupInts h1 v ns ∧ ns ∈ nss := fun v hv => by
    obtain ⟨b, hbm, rfl⟩ := List.mem_map.mp hv
    obtain ⟨ns, e, n0⟩ := hb b hbm
    exact ⟨ns, tupInts_old k1 (tup_ints I1 (.inl (.inl e))), n0⟩
  have lk : nss.length = kvs.length := by have := congrArg List.length ek; rw [List.length_map, List.length_map] at this; exact this.symm
  have hne : (bs.map Value.ref).length < 2 ∨ ∀ v ∈ bs.map Value.ref, ∃ ns, TS.TupInts h1 v ns ∧ ns ≠ [] := by
    rcases ne with ne | ne
    · left; rw [List.length_map]; omega
    · right
      intro v hv
      obtain ⟨ns, t, hm⟩ := tv v hv
      exact ⟨ns, t, ne ns hm⟩
  refine wpAny_bind (wpAny_holding ?_)
  simp only [eh1]
  refine wpAny_call_entry slot_list_sort ⟨seqObj "list" (bs.map Value.ref).toArray 0, at1, rfl⟩ entry_list_sort ?_ (args_list_sort _)
  refine sort_list at1 (fun v hv => by
    obtain ⟨ns, t, _⟩ := tv v hv
    exact ⟨ns, t⟩) hne (by rw [List.length_map]; omega) fun out o1 o2 => ?_
  refine ⟨_, rfl, wpAny_pure ⟨_, rfl, ?_⟩⟩
  have e3 : ∃ ys : List Addr, out.toList = ys.map Value.ref ∧ ys.Perm bs := by
    have gen : ∀ {l m : List Value}, l.Perm m → ∀ bs : List Addr, m = bs.map Value.ref → ∃ ys : List Addr, l = ys.map Value.ref ∧ ys.Perm bs := fun h => by
      induction h with
      | nil => intro bs e; cases bs with
        | nil => exact ⟨[], rfl, .nil⟩
        | cons b bs => cases e
      | @cons x l1 l2 _ ih =>
        intro bs e
        cases bs with
        | nil => cases e
        | cons b bs =>
          obtain ⟨e1, e2⟩ := List.cons.inj e
          obtain ⟨ys, e3, p⟩ := ih bs e2
          exact ⟨b :: ys, by rw [e3, e1]; rfl, p.cons b⟩
      | @swap x y l =>
        intro bs e
        match bs, e with
        | b :: c :: bs, e =>
          obtain ⟨e1, e2⟩ := List.cons.inj e
          obtain ⟨e3, e4⟩ := List.cons.inj e2
          exact ⟨c :: b :: bs, by rw [e1, e3, e4]; rfl, .swap _ _ _⟩
        | [], e => cases e
        | [_], e => cases e
      | trans _ _ ih1 ih2 =>
        intro bs e
        obtain ⟨ys, e1, p1⟩ := ih2 bs e
        obtain ⟨zs, e2, p2⟩ := ih1 ys e1
        exact ⟨zs, e2, p2.trans p1⟩
    exact gen o1 bs rfl
  obtain ⟨ys, ey, py⟩ := e3
  have ltz : ys.length ≤ sizeLine := by rw [py.length_eq]; omega
  obtain ⟨ep2, at2⟩ := sortedHeap_at (out := out) at1
  have keep : ∀ (b : Addr) (u : Obj), h'.get? b = some u → (sortedHeap h1 h'.objs.size (bs.map Value.ref) out).get? b = some u := fun b u e => by
    have lt := get_lt e
    rw [sortedHeap_old (Nat.ne_of_lt lt) (by have := get_lt (k1 b u e); exact this)]
    exact k1 b u e
  refine ⟨.ref h'.objs.size, upd H h'.objs.size (.lst (ys.map V.ref)), I1.laid (h' := sortedHeap h1 h'.objs.size (bs.map Value.ref) out) (t' := tk) keep (Nat.le_refl _) ⟨by rw [List.length_map]; exact ltz, out.toList, ep2, ?_, by simpa using at2⟩, rfl, q bs ys _ ib py ?_ (I1.hok.fresh (Nat.le_refl _))⟩
  · rw [ey]; exact vals_refs ys
  · rw [ey, List.pairwise_map] at o2
    refine o2.imp fun {t u} z n m hn hm => z n m (tupInts_old k1 (tup_ints I1 (.inl (.inl hn)))) (tupInts_old k1 (tup_ints I1 (.inl (.inl hm))))
theorem cr_sortLT : CallR X (.builtin "sorted") (rSortLT X.K) := by
  intro pins s σ H vs us Q I r h
  obtain ⟨a, xs, rfl, hs, hx, hne, q⟩ := h
  obtain ⟨its, rv, hl, hz⟩ := I.list hs
  rw [Vals.ref1 r]
  obtain ⟨e1, e2⟩ := bkV_refs rv fun x m => by
    obtain ⟨t, ns, e, _⟩ := hx x m
    exact ⟨t, e⟩
  have hz' : its.length ≤ sizeLine := by rw [← rv.length]; exact hz
  have tv : ∀ v ∈ its, ∃ ns, TS.TupInts s.heap v ns := fun v hv => by
    obtain ⟨t, rfl⟩ := e2 v hv
    have hm : V.ref t ∈ xs := by rw [e1]; exact List.mem_map.mpr ⟨_, hv, rfl⟩
    obtain ⟨t', ns, e, h'⟩ := hx _ hm
    cases e
    exact ⟨ns, tup_ints I h'⟩
  have hne' : its.length < 2 ∨ ∀ v ∈ its, ∃ ns, TS.TupInts s.heap v ns ∧ ns ≠ [] := by
    rcases hne with h | h
    · left; rw [← rv.length]; exact h
    · right
      intro v hv
      obtain ⟨t, rfl⟩ := e2 v hv
      have hm : V.ref t ∈ xs := by rw [e1]; exact List.mem_map.mpr ⟨_, hv, rfl⟩
      obtain ⟨t', ns, e, h', n0⟩ := h _ hm
      cases e
      exact ⟨ns, tup_ints I h', n0⟩
  refine sorted_list hl.isList tv hne' hz' fun out o1 o2 => ?_
  have h3 : ∀ u ∈ out.toList, ∃ a, u = Value.ref a := fun u hu => e2 u (o1.mem_iff.mp hu)
  have hp : (out.toList.map bkV).Perm xs := by
    rw [e1]
    exact o1.map bkV
  obtain ⟨ep, he'⟩ := PyProof.Rows.sortedAll_at s.heap its out
  have hlen : (out.toList.map bkV).length ≤ sizeLine := by
    rw [hp.length_eq]
    exact hz
  refine ⟨.ref _, upd H (s.heap.objs.size + 1) (.lst (out.toList.map bkV)), I.laid (t' := s.toks) (fun _ _ => PyProof.Rows.sortedAll_old) (Nat.le_succ _) ⟨hlen, out.toList, ep, bkV_vals h3, by simpa using he'⟩, rfl, q _ _ hp ?_ (I.hok.fresh (Nat.le_succ _))⟩
  rw [List.pairwise_map]
  refine List.Pairwise.imp_of_mem (fun {u v} hu hv z => ?_) o2
  intro t t' n m et et' hn hm
  obtain ⟨b, rfl⟩ := h3 u hu
  obtain ⟨b', rfl⟩ := h3 v hv
  cases et
  cases et'
  exact z n m (tup_ints I hn) (tup_ints I hm)
end
def asKT : List (List L2.Key × PyData) → Option (List (List Int))
  | [] => some []
  | (k, _) :: r => match asInts (k.map fun k => match k with | .inl i => PyData.int i | .inr z => .str z), asKT r with
    | some ns, some nss => some (ns :: nss)
    | _, _ => none
theorem asKT_eq : ∀ {kvs : List (List L2.Key × PyData)} {nss : List (List Int)}, asKT kvs = some nss → kvs.map (·.1) = nss.map (·.map Sum.inl)
  | [], nss, h => by cases h; rfl
  | (k, d) :: r, nss, h => by
    unfold asKT at h
    split at h
    · rename_i ns mss e1 e2
      cases h
      have : k = ns.map Sum.inl := by
        have := asInts_eq e1
        clear e1 e2
        induction k generalizing ns with
        | nil => cases ns with
          | nil => rfl
          | cons n ns => cases this
        | cons q k ih =>
          cases ns with
          | nil => cases this
          | cons n ns =>
            obtain ⟨a, b⟩ := List.cons.inj this
            cases q with
            | inl i => cases a; rw [List.map_cons, ih _ b]
            | inr z => cases a
      rw [List.map_cons, List.map_cons, asKT_eq e2, this]
    · cases h
theorem asKT_of : ∀ {kvs : List (List L2.Key × PyData)} {nss : List (List Int)}, kvs.map (·.1) = nss.map (·.map Sum.inl) → asKT kvs = some nss
  | [], [], _ => rfl
  | [], _ :: _, h => by cases h
  | _ :: _, [], h => by cases h
  | (k, d) :: r, ns :: nss, h => by
    obtain ⟨a, b⟩ := List.cons.inj h
    have a : k = ns.map Sum.inl := a
    unfold asKT
    rw [asKT_of b, a, List.map_map]
    have : asInts (ns.map ((fun k : L2.Key => match k with | .inl i => PyData.int i | .inr z => .str z) ∘ Sum.inl)) = some ns := asInts_map ns
    rw [this]
def clSortT : Cl := fun g rs => match rs with
  | [r] => match dictAt g r with
    | some (.dT kvs) => match asKT kvs with
      | some nss => if (decide (nss.length < 2) || nss.all (fun ns => !ns.isEmpty)) then some (.d (.list ((srtL nss).map tupD))) else none
      | none => none
    | some _ => none
    | none => match seqOf g r with
      | some (false, ds) => match asTups ds with
        | some nss => if (decide (nss.length < 2) || nss.all (fun ns => !ns.isEmpty)) then some (.d (.list ((srtL nss).map tupD))) else none
        | none => none
      | _ => none
  | _ => none
theorem all_ne {nss : List (List Int)} (hn : nss.length < 2 ∨ ∀ ns ∈ nss, ns ≠ []) : (decide (nss.length < 2) || nss.all (fun ns => !ns.isEmpty)) = true := by
  rcases hn with h | hn
  · rw [decide_eq_true h]; rfl
  · rw [Bool.or_eq_true]
    exact .inr (List.all_eq_true.mpr fun ns h => by
      cases ns with
      | nil => exact absurd rfl (hn _ h)
      | cons _ _ => rfl)
theorem clSortT_d (g : G) (r : R) {kvs : List (List L2.Key × PyData)} {nss : List (List Int)} (hd : dictAt g r = some (.dT kvs)) (hk : kvs.map (·.1) = nss.map (·.map Sum.inl)) (hn : nss.length < 2 ∨ ∀ ns ∈ nss, ns ≠ []) : clSortT g [r] = some (.d (.list ((srtL nss).map tupD))) := by
  have hn' := all_ne hn
  simp only [clSortT, hd, asKT_of hk, hn', if_true]
def cSortT : DCl := fun rs g k => ∃ r nss, rs = [r] ∧ ((∃ kvs, dictAt g r = some (.dT kvs) ∧ kvs.map (·.1) = nss.map (·.map Sum.inl)) ∨ seqOf g r = some (false, nss.map tupD)) ∧ (nss.length < 2 ∨ ∀ ns ∈ nss, ns ≠ []) ∧ k (.d (.list ((srtL nss).map tupD))) g
theorem ne_all {nss : List (List Int)} (h : (decide (nss.length < 2) || nss.all (fun ns => !ns.isEmpty)) = true) : nss.length < 2 ∨ ∀ ns ∈ nss, ns ≠ [] := by
  rw [Bool.or_eq_true, decide_eq_true_iff] at h
  refine h.imp id fun h ns hm e => ?_
  have := List.all_eq_true.mp h ns hm
  rw [e] at this
  cases this
theorem sortT_says : SaysC clSortT cSortT := fun rs g k r e hk => by
  unfold clSortT at e
  split at e
  · split at e
    · rename_i kvs hd
      split at e
      · rename_i nss ha
        split at e
        · rename_i hn
          cases e
          exact ⟨_, nss, rfl, .inl ⟨kvs, hd, asKT_eq ha⟩, ne_all hn, hk⟩
        · cases e
      · cases e
    · cases e
    · split at e
      · rename_i ds hs
        split at e
        · rename_i nss ha
          split at e
          · rename_i hn
            cases e
            cases asTups_eq ha
            exact ⟨_, nss, rfl, .inr hs, ne_all hn, hk⟩
          · cases e
        · cases e
      · cases e
  · cases e
section
variable {K : KR} {F : Fm} {g : G} {tm : List (V × R)} {s : L2.St} {H B : Hp} {al : List Addr}
/-- a tuple becomes shared -/
theorem Stt.adoptT (S : Stt K F g tm s H B al) {p : Addr} {xs : List V} (hp : H p = some (.tup xs)) : ∃ B', Same B B' ∧ B' p = some (.tup xs) ∧ Stt K F g tm s H B' al := by
  cases hb : B p with
  | some o =>
    have := S.bh _ _ hb
    rw [hp] at this
    cases this
    exact ⟨B, Same.refl _, hb, S⟩
  | none =>
    have eB : Same B (upd B p (.tup xs)) := same_new hb
    refine ⟨upd B p (.tup xs), eB, upd_same, { rb := S.rb, ro := S.ro, rp := S.rp, ot := S.ot, fb := S.fb.trans eB, bh := ?_, fo := ?_, pre := S.pre, len := S.len, nd := S.nd, lv := S.lv, nb := ?_, ce := ?_, sl := ?_, tm := ?_, sln := S.sln }⟩
    · intro a o e
      by_cases h : a = p
      · subst h; rw [upd_same] at e; cases e; exact hp
      · rw [upd_ne h] at e; exact S.bh _ _ e
    · intro a o e
      obtain ⟨h1, h2, h3⟩ := S.fo a o e
      have ne : a ≠ p := fun z => by
        subst z
        rw [hp] at h1
        cases h1
        exact S.ot a _ e
      exact ⟨h1, by rw [upd_ne ne]; exact h2, h3⟩
    · intro j a ct h1 h2 h3
      have ne : a ≠ p := fun z => S.box (List.mem_of_getElem? h1) xs (z ▸ hp)
      rw [upd_ne ne]
      exact S.nb j a ct h1 h2 h3
    · intro j a ct h1 h2
      exact ct_mono0 eB (fun o e => e) (S.ce j a ct h1 h2)
    · intro i r e
      obtain ⟨v, h1, h2⟩ := S.sl i r e
      exact ⟨v, h1, rv_mono0 eB h2⟩
    · intro q hq
      exact rv_mono0 eB (S.tm q hq)
def unI : V → Int
  | .int i => i
  | _ => 0
def keyH (H : Hp) (b : Addr) : List Int := match H b with
  | some (.tup vs) => vs.map unI
  | _ => []
theorem keyH_of {b : Addr} {ns : List Int} (h : H b = some (.tup (ns.map V.int))) : keyH H b = ns := by
  unfold keyH
  rw [h]
  show (ns.map V.int).map unI = ns
  rw [List.map_map]
  have : (unI ∘ V.int) = id := rfl
  rw [this, List.map_id]
theorem dq_ints {B : Hp} : ∀ ns : List Int, DqAll B (ns.map V.int) (zD ns)
  | [] => .nil
  | n :: ns => .cons (.int n) (dq_ints ns)
theorem Stt.adoptTs (S : Stt K F g tm s H B al) : ∀ {ys : List Addr}, (∀ b ∈ ys, ∃ ns : List Int, H b = some (.tup (ns.map V.int))) → ∃ B', Same B B' ∧ Stt K F g tm s H B' al ∧ DqAll B' (ys.map V.ref) ((ys.map (keyH H)).map tupD)
  | [], _ => ⟨B, Same.refl _, S, .nil⟩
  | y :: ys, h => by
    obtain ⟨B1, e1, S1, d1⟩ := S.adoptTs (ys := ys) fun b hb => h b (List.mem_cons_of_mem _ hb)
    obtain ⟨ns, hn⟩ := h y List.mem_cons_self
    obtain ⟨B2, e2, h2, S2⟩ := S1.adoptT hn
    refine ⟨B2, e1.trans e2, S2, .cons ?_ (dqall_mono e2 d1)⟩
    rw [keyH_of hn]
    exact .tup h2 (dq_ints ns)
end
theorem isk_keys {H : Hp} : ∀ {kvs : List (List L2.Key × V)} {bs : List Addr} {nss : List (List Int)}, IsKeys H kvs bs → kvs.map (·.1) = nss.map (·.map Sum.inl) → bs.map (keyH H) = nss
  | [], _, [], .nil, _ => rfl
  | [], _, _ :: _, .nil, e => by cases e
  | kv :: kvs, b0 :: bs, [], .cons h t, e => by cases e
  | kv :: kvs, b0 :: bs, ns :: nss, .cons h t, e => by
    have e1 : kv.1 = ns.map Sum.inl := (List.cons.inj e).1
    have h : H b0 = some (HO.tup (kv.1.map kV)) := h
    rw [kv_int e1] at h
    rw [List.map_cons, keyH_of h, isk_keys t (List.cons.inj e).2]
def keyX (H : Hp) : V → List Int
  | .ref t => keyH H t
  | _ => []
theorem keysX_of {H B : Hp} (hb : ∀ a o, B a = some o → H a = some o) : ∀ {xs : List V} {nss : List (List Int)}, DqAll B xs (nss.map tupD) → xs.map (keyX H) = nss ∧ ∀ x ∈ xs, ∃ (t : Addr), x = .ref t ∧ H t = some (.tup ((keyX H x).map V.int))
  | _, [], .nil => ⟨rfl, fun x hx => absurd hx (by simp)⟩
  | x :: xs, ns :: nss, .cons h t => by
    obtain ⟨i1, i2⟩ := keysX_of hb t
    obtain ⟨a, vs, rfl, h1, h2⟩ := dq_tup h
    cases dqall_ints (ns := ns) h2
    have h3 := hb _ _ h1
    have k : keyX H (.ref a) = ns := keyH_of h3
    refine ⟨by rw [List.map_cons, i1, k], fun y hy => ?_⟩
    rcases List.mem_cons.mp hy with e' | hy
    · subst e'; rw [k]; exact ⟨a, rfl, h3⟩
    · exact i2 y hy
section
variable {ρ : Root} {X : Cx} {dx : DX} {e : Expr} {es : List Expr} {pos : Pos} {fs : FAr}
theorem cr_sortTT (hc : X.calm = true) : CallR X (.builtin "sorted") (fun vs H Q => rSortDT vs H Q ∨ rSortLT X.K vs H Q) := by
  intro pins s σ H vs us Q I rr q
  rcases q with q | q
  · exact cr_sortDT hc pins s σ H vs us Q I rr q
  · exact cr_sortLT pins s σ H vs us Q I rr q
theorem pd_sortT {p : Pos} {da : DA} (hc : X.calm = true) (hg : Gl X "sorted") (hm : X.mg "sorted" = none) (ha : PDA ρ X (e :: es) da) (he : starEach (e :: es) X.env = (false, eval e X.env) :: starEach es X.env := by rfl) (hpl : (backTo pos (starEach es X.env)).any (·.1) = false := by rfl) :
    PD ρ X (.Call (.Name "sorted" p) (e :: es) [] pos) (dCall cSortT da) := by
  refine pd_callB (cr_sortTT hc) ?_ hg hm (by decide +kernel) ha (he := he) (hpl := hpl)
  rintro F g tm s H B al vs rs k Q S pr ⟨r, nss, rfl, hs, hn, hk⟩ q
  obtain ⟨v, rfl, hv⟩ := pair1 pr
  rcases hs with ⟨kvs, hd, ek⟩ | hs
  · left
    obtain ⟨a, rfl, -, us, h1, h2⟩ := S.dict hv hd
    have eu : us.map (·.1) = kvs.map (·.1) := by
      clear h1 hd ek
      induction h2 with
      | nil => rfl
      | cons a _ ih => rw [List.map_cons, List.map_cons, ih, a.1]
    refine ⟨a, us, nss, rfl, .inl h1, eu.trans ek, hn, fun bs ys p ib py pw hp => ?_⟩
    have eb := isk_keys ib (eu.trans ek)
    have hb := isk_get ib (eu.trans ek)
    have hy : ∀ b ∈ ys, ∃ ns : List Int, H b = some (.tup (ns.map V.int)) := fun b hm => by
      obtain ⟨ns, h, _⟩ := hb b (py.mem_iff.mp hm)
      exact ⟨ns, h⟩
    obtain ⟨B', eB, S', d⟩ := S.adoptTs hy
    have e1 : srtL nss = ys.map (keyH H) := srtL_eq (by rw [← eb]; exact py.map _) (by
      rw [List.pairwise_map]
      refine List.Pairwise.imp_of_mem (fun {t u} ht hu z => ?_) pw
      obtain ⟨n, hn'⟩ := hy t ht
      obtain ⟨m, hm'⟩ := hy u hu
      rw [keyH_of hn', keyH_of hm']
      exact leL_of_lex _ _ (z n m hn' hm'))
    rw [e1] at hk
    exact new_l S' hp d hk q
  · right
    obtain ⟨a, xs, rfl, h1, h2⟩ := S.seq hv hs
    have hb : ∀ a o, B a = some o → H a = some o := fun a o h => S.bh _ _ h
    obtain ⟨k1, k2⟩ := keysX_of hb h2
    refine ⟨a, xs, rfl, h1, fun x hx => ?_, ?_, fun ys p py pw hp => ?_⟩
    · obtain ⟨t, e, ht⟩ := k2 x hx
      exact ⟨t, keyX H x, e, .inl (.inl ht)⟩
    · refine hn.imp (fun h => by rw [← k1, List.length_map] at h; exact h) fun h x hx => ?_
      obtain ⟨t, e, ht⟩ := k2 x hx
      refine ⟨t, keyX H x, e, .inl (.inl ht), h _ ?_⟩
      rw [← k1]
      exact List.mem_map.mpr ⟨x, hx, rfl⟩
    · obtain ⟨mss, p1, q1⟩ := dq_permM py h2
      obtain ⟨k3, k4⟩ := keysX_of hb q1
      have e1 : srtL nss = mss := srtL_eq p1 (by
        rw [← k3, List.pairwise_map]
        refine List.Pairwise.imp_of_mem (fun {x y} hx hy z => ?_) pw
        obtain ⟨t, et, ht⟩ := k4 x hx
        obtain ⟨u, eu, hu⟩ := k4 y hy
        exact leL_of_lex _ _ (z t u _ _ et eu (.inl (.inl ht)) (.inl (.inl hu))))
      rw [e1] at hk
      exact new_l S hp q1 hk q
theorem q_sortT {p : Pos} (hc : X.calm = true) (hg : Gl X "sorted") (hm : X.mg "sorted" = none) (ha : PFA ρ X dx (e :: es) fs) (he : starEach (e :: es) X.env = (false, eval e X.env) :: starEach es X.env := by rfl) (hpl : (backTo pos (starEach es X.env)).any (·.1) = false := by rfl) : PF ρ X dx (.Call (.Name "sorted" p) (e :: es) [] pos) (fCl clSortT fs) := pd_mono (pd_sortT hc hg hm ha he hpl) (rd_cl sortT_says)
end
end DL
set_option Elab.async false
set_option linter.all false
set_option maxRecDepth 100000
set_option maxHeartbeats 4000000
set_option autoImplicit false
namespace DL
open PySem PySem.Spec PyProof.Rows L2 PySem.W
def hT (ns : List Int) : Int := reduceHash (Builtin.Tuple.tupleHashOf (ns.map hashInt))
theorem hT_eq (P : Program) (w : World) (ns : List Int) : tupleKeyHash (mixKind P w) (ns.map Sum.inl) = hT ns := by
  unfold tupleKeyHash hT
  rw [List.map_map]
  rfl
def putAllK (kvs more : List (List L2.Key × V)) : List (List L2.Key × V) := more.foldl (fun k p => putK k p.1 p.2) kvs
def rDUpd (P : Program) (w : World) : V → List V → Hp → VK → Prop := fun x xs H Q => ∃ (a b : Addr) (kvs more : List (List L2.Key × V)), x = V.ref a ∧ xs = [V.ref b] ∧ a ≠ b ∧ H a = some (.dT kvs) ∧ H b = some (.dT more) ∧ kvs.length + more.length ≤ sizeLine ∧ (kvs ≠ [] ∨ (more.map fun p => tupleKeyHash (mixKind P w) p.1).Nodup) ∧ Q .non (upd H a (.dT (putAllK kvs more)))
theorem kt_all {H : Hp} : ∀ {more : List (List L2.Key × V)} {ys : List (List L2.Key × Addr × Value)} {kvs : List (List L2.Key × V)} {xs : List (List L2.Key × Addr × Value)}, KT H kvs xs → KT H more ys → KT H (putAllK kvs more) (storedAllH xs ys)
  | [], [], kvs, xs, h, .nil => h
  | p :: more, q :: ys, kvs, xs, h, .cons a t => by
    have h1 := h.put p.1 a.2.1 a.2.2
    rw [a.1] at h1
    have := kt_all h1 t
    show KT H (putAllK (putK kvs p.1 p.2) more) _
    rw [a.1]
    exact this
theorem putK_len (kvs : List (List L2.Key × V)) (k : List L2.Key) (y : V) : (putK kvs k y).length ≤ kvs.length + 1 := by
  unfold putK
  split
  · rw [List.length_map]; omega
  · rw [List.length_append]; simp
theorem putAllK_len : ∀ (more kvs : List (List L2.Key × V)), (putAllK kvs more).length ≤ kvs.length + more.length
  | [], kvs => Nat.le_refl _
  | p :: more, kvs => by
    have h1 := putAllK_len more (putK kvs p.1 p.2)
    have h2 := putK_len kvs p.1 p.2
    show (putAllK (putK kvs p.1 p.2) more).length ≤ _
    rw [List.length_cons]
    omega
theorem mt_dupd {X : Cx} (hu : X.A.units + 1 < cLine) : MtR X "dict.update" (rDUpd X.prog X.w) := by
  intro pins s σ H x xs v us Q I r vs h
  obtain ⟨a, b, kvs, more, rfl, rfl, ne, ha, hb, hl, hh, q⟩ := h
  obtain rfl : v = Value.ref a := r
  rw [Vals.ref1 vs]
  obtain ⟨z1, hs1, ks, r1, d1⟩ := dt_of I.hok ha
  obtain ⟨z2, hs2, ms, r2, d2⟩ := dt_of I.hok hb
  refine wpAny_call_entry PySem.F.slot_dict_update d1.typeIs PySem.F.entry_dict_update ?_ (PySem.F.args_dict_update_2 _ _)
  refine wpAny_bind ?_
  unfold Builtin.Dict.selfAndRest
  refine wpAny_bind (wpAny_notOrdered_dict d1.typeIs ?_)
  show wpAny _ _ (pure (a, [Value.ref b])) _ _ s
  refine wpAny_pure ?_
  show wpAny _ _ (Builtin.Dict.updateFrom "dict.update" a (Value.ref b) [] Value.none) _ _ s
  unfold Builtin.Dict.updateFrom
  refine wpAny_bind (wpAny_typeOf d2.typeIs ?_)
  rw [if_neg (by decide)]
  refine wpAny_bind ?_
  unfold Builtin.Dict.merge
  refine wpAny_bind ?_
  unfold Builtin.Dict.readDirectly
  refine wpAny_bind (wpAny_isInstance d2.typeIs isSubtype_dict_dict ?_)
  rw [if_neg (by decide)]
  refine wpAny_bind (wpAny_specialOf d2.typeIs F.slot_dict_iter.lookup ?_)
  refine wpAny_pure ?_
  rw [if_pos (by decide)]
  show wpAny _ _ (pure b >>= fun o => Builtin.Dict.mergeDict "dict.update" a o) _ _ s
  refine wpAny_bind (wpAny_pure ?_)
  have room : (tupleKind (mixKind X.prog X.w)).room X.A.in1 := by
    show X.A.units + 1 < cLine
    exact hu
  have l1 := Paired.length r1
  have l2 := Paired.length r2
  refine wpAny_mergeDict_heap room ne hs2 d1 d2 ?_ (fun h' d1' d2' same => ?_) (by omega)
  · rcases hh with h | h
    · left
      intro e
      exact h (List.length_eq_zero_iff.mp (by rw [l1, e]; rfl))
    · right
      have e : ∀ {more : List (List L2.Key × V)} {ms : List (List L2.Key × Addr × Value)}, KT H more ms → ms.map (fun x => (tupleKind (mixKind X.prog X.w)).hash x.1) = more.map (fun p => tupleKeyHash (mixKind X.prog X.w) p.1) := fun r => by
        induction r with
        | nil => rfl
        | cons a _ ih => rw [List.map_cons, List.map_cons, ih, a.1]; rfl
      refine ⟨fun x hx => ?_, by rw [e r2]; exact h⟩
      have z : ∀ {more : List (List L2.Key × V)} {ms : List (List L2.Key × Addr × Value)}, KT H more ms → x ∈ ms → ∃ ys, H x.2.1 = some (.tup ys) := fun r hx => by
        induction r with
        | nil => cases hx
        | cons a _ ih =>
          rcases List.mem_cons.mp hx with e | hx
          · subst e; exact ⟨_, a.2.1⟩
          · exact ih hx
      obtain ⟨ys, hy⟩ := z r2 hx
      obtain ⟨its, rv, ⟨o, ho, hc, _⟩, _⟩ := I.tuple (.inl (.inl hy))
      exact ⟨o, ho, hc⟩
  · refine wpAny_bind (wpAny_pure (wpAny_pure ⟨Value.none, rfl, .non, upd H a (.dT (putAllK kvs more)), ?_, rfl, q⟩))
    obtain ⟨qq, es, ep, hq, h2, h3, h4, _, h5⟩ := d1'
    have kt := kt_all r1 r2
    refine d_write I (by rw [ha]; exact True.intro) same ⟨qq, hq⟩ ⟨Nat.le_trans (putAllK_len more kvs) (by omega), hs1, _, kt.keeps fun c ys ec => ?_, qq, es, ep, hq, h2, h3, h4, h5⟩
    rw [upd_ne (ne_of ec ha (fun z => nomatch z))]
    exact ec
def tDisp2T (tk1 tv1 tk2 tv2 : TE) : TE := fun σ H Q => ∀ p, H p = none → tk1 σ (upd H p (.dT [])) fun x1 H1 => tv1 σ H1 fun y1 H2 => tk2 σ H2 fun x2 H3 => tv2 σ H3 fun y2 H4 => H4 p = some (.dT []) ∧ ∃ b1 k1 b2 k2, x1 = .ref b1 ∧ H4 b1 = some (.tup (k1.map kV)) ∧ x2 = .ref b2 ∧ H4 b2 = some (.tup (k2.map kV)) ∧ Q (.ref p) (upd H4 p (.dT (putK (putK [] k1 y1) k2 y2)))
theorem pe_disp2T {X : Cx} {pos : Pos} {k1 v1 k2 v2 : Expr} {tk1 tv1 tk2 tv2 : TE} (hu : X.A.units + 1 < cLine) (hk1 : PE X k1 tk1) (hv1 : PE X v1 tv1) (hk2 : PE X k2 tk2) (hv2 : PE X v2 tv2) : PE X (.Dict [some k1, some k2] [v1, v2] pos) (tDisp2T tk1 tv1 tk2 tv2) := by
  refine ⟨fun pins s σ H Q I q => ?_⟩
  have hn := I.hok.fresh (Nat.le_refl s.heap.objs.size)
  have I1 := I.laid (a := s.heap.objs.size) (o := .dT []) (h' := s.heap.push { cls := .type "dict", data := .dict #[] }) (t' := s.toks) (fun _ _ q => Heap.get?_push_of_some _ q) (Nat.le_refl _) (dt_empty s.heap I.big)
  have hall : ([some k1, some k2] : List (Option Expr)).all (·.isSome) = true := rfl
  have hl : ([some k1, some k2] : List (Option Expr)).length = [v1, v2].length := rfl
  have hpl := pairTrees_length [some k1, some k2] [v1, v2] X.env pos hall hl
  have hp0 : pairTrees [some k1, some k2] [v1, v2] X.env pos ≠ [] := fun e => by rw [e] at hpl; exact nomatch hpl
  rw [arm_eval_Dict, zip_pairTrees [some k1, some k2] [v1, v2] X.env pos hall hl, dictDisplay_pairs _ hp0 (by rw [hpl]; simp)]
  refine wpAny_bind (wpAny_standAt (wpAny_bind (wpAny_subDictH (knd := tupleKind (mixKind X.prog X.w)) (show X.A.units < cLine by omega) (by rw [hpl]; simp) ?_)))
  refine pairTrees_cons_walk (thn (hk1.run pins _ σ _ _ I1 (q _ hn)) fun u1 s1 ⟨x1, H1, I2, rx1, q1⟩ => thn (hv1.run pins s1 σ H1 _ I2 q1) fun w1 s2 ⟨y1, H2, I3, ry1, q2⟩ => pairTrees_cons_walk (thn (hk2.run pins s2 σ H2 _ I3 q2) fun u2 s3 ⟨x2, H3, I4, rx2, q3⟩ => thn (hv2.run pins s3 σ H3 _ I4 q3) fun w2 s4 ⟨y2, H4, I5, ry2, q4⟩ => pairTrees_nil_walk ?_))
  obtain ⟨e, b1, ks1, b2, ks2, rfl, eb1, rfl, eb2, q5⟩ := q4
  cases (show u1 = Value.ref b1 from rx1)
  cases (show u2 = Value.ref b2 from rx2)
  obtain ⟨z, hd, xs, rel, dd⟩ := dt_of I5.hok e
  cases rel
  refine ⟨[(ks1, b1, w1), (ks2, b2, w2)], ⟨rfl, rfl, L2.key_of I5.hok eb1, rfl, rfl, L2.key_of I5.hok eb2, trivial⟩, dd, fun h' tk dd' hs => wpAny_pure ⟨.ref s.heap.objs.size, _, ?_, rfl, q5⟩⟩
  obtain ⟨qq, es, ep, hq, h2, h3, h4, _, h5⟩ := dd'
  have kt : KT H4 (putK (putK [] ks1 y1) ks2 y2) (storedAllH [] [(ks1, b1, w1), (ks2, b2, w2)]) := kt_all (more := [(ks1, y1), (ks2, y2)]) .nil (.cons ⟨rfl, eb1, ry1⟩ (.cons ⟨rfl, eb2, ry2⟩ .nil))
  have lz : (putK (putK [] ks1 y1) ks2 y2).length ≤ 2 := by
    have a1 := putK_len [] ks1 y1
    have a2 := putK_len (putK [] ks1 y1) ks2 y2
    simp only [List.length_nil] at a1
    omega
  refine d_write I5 (by rw [e]; exact True.intro) hs ⟨qq, hq⟩ ⟨by rw [sizeLine_eq]; omega, hd, _, kt.keeps fun c ys ec => ?_, qq, es, ep, hq, h2, h3, h4, h5⟩
  rw [upd_ne (ne_of ec e (fun z => nomatch z))]
  exact ec
def disp2K (j : Nat) (g : G) (rk1 rv1 rk2 rv2 : R) : Out R := match rk1, rv1, rk2, rv2 with
  | .d key1, .d x1, .d key2, .d x2 => match tkeyOf key1, tkeyOf key2 with
    | some ks1, some ks2 => match g.ce[j]? with
      | some (.dT []) => .ok (.o j) { g with ce := g.ce.set j (.dT (putP (putP [] ks1 x1) ks2 x2)) }
      | _ => .no
    | _, _ => .no
  | _, _, _, _ => .no
def fDisp2T (fk1 fv1 fk2 fv2 : FE) : FE := fun g => (fk1 { g with ce := g.ce ++ [.dT []] }).bind fun rk1 g1 => (fv1 g1).bind fun rv1 g2 => (fk2 g2).bind fun rk2 g3 => (fv2 g3).bind fun rv2 g4 => disp2K g.ce.length g4 rk1 rv1 rk2 rv2
theorem disp2K_of {j : Nat} {sl : List (Option R)} {ce : List Ct} {key1 x1 key2 x2 : PyData} {ks1 ks2 : List L2.Key} (hk1 : tkeyOf key1 = some ks1) (hk2 : tkeyOf key2 = some ks2) (hj : ce.length = j) : disp2K j ⟨sl, ce ++ [.dT []]⟩ (.d key1) (.d x1) (.d key2) (.d x2) = .ok (.o j) ⟨sl, ce ++ [.dT (putP (putP [] ks1 x1) ks2 x2)]⟩ := by
  subst hj
  have e1 : (ce ++ [Ct.dT []])[ce.length]? = some (Ct.dT []) := by simp
  have e2 : ∀ z, (ce ++ [Ct.dT []]).set ce.length (.dT z) = ce ++ [.dT z] := fun z => by
    rw [List.set_append_right _ _ (Nat.le_refl _), Nat.sub_self]
    rfl
  simp only [disp2K, hk1, hk2, e1, e2]
def putAllP (kvs more : List (List L2.Key × PyData)) : List (List L2.Key × PyData) := more.foldl (fun k p => putP k p.1 p.2) kvs
def hashD (more : List (List L2.Key × PyData)) : Bool := match asKT more with
  | some nss => decide ((nss.map hT).Nodup)
  | none => false
def updK (g : G) (r rd : R) : Out R := match r, rd with
  | .o i, .o j => match g.ce[i]?, g.ce[j]? with
    | some (.dT kvs), some (.dT more) => if i ≠ j ∧ kvs.length + more.length ≤ 100000 ∧ (kvs ≠ [] ∨ hashD more = true) then .ok (.d .none) { g with ce := g.ce.set i (.dT (putAllP kvs more)) } else .no
    | _, _ => .no
  | _, _ => .no
def isDT (g : G) : R → Bool
  | .o j => match g.ce[j]? with
    | some (.dT _) => true
    | _ => false
  | _ => false
def fUpd2 (f fk1 fv1 fk2 fv2 : FE) : FE := fun g => (f g).bind fun r g1 => if isDT g1 r then (fDisp2T fk1 fv1 fk2 fv2 g1).bind fun rd g2 => updK g2 r rd else .no
theorem fUpd2_ap (f fk1 fv1 fk2 fv2 : FE) (g : G) : fUpd2 f fk1 fv1 fk2 fv2 g = (f g).bind fun r g1 => if isDT g1 r then (fDisp2T fk1 fv1 fk2 fv2 g1).bind fun rd g2 => updK g2 r rd else .no := id rfl
theorem fDisp2T_ap (fk1 fv1 fk2 fv2 : FE) (g : G) : fDisp2T fk1 fv1 fk2 fv2 g = (fk1 { g with ce := g.ce ++ [.dT []] }).bind fun rk1 g1 => (fv1 g1).bind fun rv1 g2 => (fk2 g2).bind fun rk2 g3 => (fv2 g3).bind fun rv2 g4 => disp2K g.ce.length g4 rk1 rv1 rk2 rv2 := id rfl
theorem putAll_ok {B : Hp} : ∀ {more : List (List L2.Key × PyData)} {ms : List (List L2.Key × V)} {us : List (List L2.Key × V)} {kvs : List (List L2.Key × PyData)}, Paired (fun (p : List L2.Key × V) (q : List L2.Key × PyData) => p.1 = q.1 ∧ Dq B p.2 q.2) us kvs → Paired (fun (p : List L2.Key × V) (q : List L2.Key × PyData) => p.1 = q.1 ∧ Dq B p.2 q.2) ms more → Paired (fun (p : List L2.Key × V) (q : List L2.Key × PyData) => p.1 = q.1 ∧ Dq B p.2 q.2) (putAllK us ms) (putAllP kvs more)
  | [], [], us, kvs, h, .nil => h
  | q :: more, p :: ms, us, kvs, h, .cons a t => by
    have h1 := put_okP (k := q.1) a.2 h
    have := putAll_ok h1 t
    show Paired _ (putAllK (putK us p.1 p.2) ms) _
    rw [a.1]
    exact this
section
variable {ρ : Root} {X : Cx} {dx : DX} {o k1 v1 k2 v2 : Expr} {f fk1 fv1 fk2 fv2 : FE} {pos apos cpos : Pos}
theorem q_disp2T (hu : X.A.units + 1 < cLine) (hk1 : PF ρ X dx k1 fk1) (hv1 : PF ρ X dx v1 fv1) (hk2 : PF ρ X dx k2 fk2) (hv2 : PF ρ X dx v2 fv2) : PF ρ X dx (.Dict [some k1, some k2] [v1, v2] pos) (fDisp2T fk1 fv1 fk2 fv2) :=
  pe_imp (pe_disp2T hu hk1 hv1 hk2 hv2) fun s H Q ⟨F, g, tm, kk, B, al, S, hkk, q⟩ => fun p hp => by
    have S1 := (S.own hp (ct := .dT []) ⟨[], upd_same, .nil⟩).push (r := .o g.ce.length) (v := .ref p) ⟨p, S.own_at, rfl⟩
    refine ⟨F, _, _, _, B, al ++ [p], S1, go_bind.mp hkk, fun x1 H1 r1 g1 B1 al1 h1 S2 => ?_⟩
    refine ⟨F, g1, _, _, B1, al1, S2, go_bind.mp h1, fun x2 H2 r2 g2 B2 al2 h2 S3 => ?_⟩
    refine ⟨F, g2, _, _, B2, al2, S3, go_bind.mp h2, fun x3 H3 r3 g3 B3 al3 h3 S4 => ?_⟩
    refine ⟨F, g3, _, _, B3, al3, S4, go_bind.mp h3, fun x4 H4 r4 g4 B4 al4 h4 S5 => ?_⟩
    have h4 : (disp2K g.ce.length g4 r1 r2 r3 r4).go dx kk := h4
    obtain ⟨p', hp', e'⟩ : RvOk ⟨X.K, ρ⟩ B4 al4 (.ref p) (.o g.ce.length) := S5.tm (.ref p, .o g.ce.length) (by simp)
    cases e'
    unfold disp2K at h4
    split at h4
    · rename_i key1 y1 key2 y2 _
      split at h4
      · rename_i ks1 ks2 e1 e2
        split at h4
        · rename_i hce
          obtain ⟨us, hus, hpr⟩ := S5.ce g.ce.length p _ hp' hce
          cases hpr
          obtain ⟨b1, rfl, hb1⟩ := tkey_ok (S5.tm (x1, .d key1) (by simp)) e1
          obtain ⟨b2, rfl, hb2⟩ := tkey_ok (S5.tm (x3, .d key2) (by simp)) e2
          have hx1 : Dq B4 x2 y1 := S5.tm (x2, .d y1) (by simp)
          have hx2 : Dq B4 x4 y2 := S5.top rfl
          refine ⟨hus, b1, ks1, b2, ks2, rfl, S5.bh _ _ hb1, rfl, S5.bh _ _ hb2, ?_⟩
          have S6 := S5.put (o := .dT (putK (putK [] ks1 x2) ks2 x4)) (ct' := .dT (putP (putP [] ks1 y1) ks2 y2)) hp' hce (fun z => nomatch z) ⟨_, upd_same, put_okP hx2 (put_okP hx1 .nil)⟩
          exact q _ _ (.o g.ce.length) _ B4 al4 h4 ((S6.temps fun t ht => by simp [ht]).push ⟨p, hp', rfl⟩)
        · exact h4.elim
      · exact h4.elim
    · exact h4.elim
theorem q_upd2 (hu : X.A.units + 1 < cLine) (ho : PF ρ X dx o f) (hk1 : PF ρ X dx k1 fk1) (hv1 : PF ρ X dx v1 fv1) (hk2 : PF ρ X dx k2 fk2) (hv2 : PF ρ X dx v2 fv2)
    (hbase : attributeBase o "update" X.env (eval o X.env) = eval o X.env := by rfl)
    (hline : (apos.endLine == cpos.line) = true := by rfl) :
    PF ρ X dx (.Call (.Attribute o "update" apos) [.Dict [some k1, some k2] [v1, v2] pos] [] cpos) (fUpd2 f fk1 fv1 fk2 fv2) :=
  pe_imp (pe_bm PySem.F.plainAttrs_dict PySem.F.slot_dict_update PySem.F.type_dict_update (mt_dupd hu) ho (pa_cons (q_disp2T (pos := pos) hu hk1 hv1 hk2 hv2) pa_nil rfl) hbase rfl hline) fun s H Q ⟨F, g, tm, kk, B, al, S, hkk, q⟩ => by
    refine ⟨F, g, tm, _, B, al, S, go_bind.mp hkk, fun v H1 r g1 B1 al1 h1 S1 => ?_⟩
    have h1 : (if isDT g1 r then (fDisp2T fk1 fv1 fk2 fv2 g1).bind fun rd g2 => updK g2 r rd else .no).go dx kk := h1
    by_cases hd : isDT g1 r = true
    · rw [if_pos hd] at h1
      obtain ⟨i, kvs1, rfl, hi⟩ : ∃ i kvs, r = .o i ∧ g1.ce[i]? = some (.dT kvs) := by
        unfold isDT at hd
        split at hd
        · rename_i j _
          split at hd
          · rename_i kvs e
            exact ⟨j, kvs, rfl, e⟩
          · cases hd
        · cases hd
      obtain ⟨a, ha, rfl⟩ : RvOk ⟨X.K, ρ⟩ B1 al1 v (.o i) := S1.top rfl
      obtain ⟨us1, hus1, _⟩ := S1.ce i a _ ha hi
      refine ⟨.inr (.inr (.inl ⟨rfl, .inr ⟨us1, hus1⟩⟩)), F, g1, _, _, B1, al1, S1, go_bind.mp h1, fun y H2 rd g2 B2 al2 h2 S2 => ?_⟩
      have h2 : (updK g2 (.o i) rd).go dx kk := h2
      obtain ⟨a', ha', e'⟩ : RvOk ⟨X.K, ρ⟩ B2 al2 (.ref a) (.o i) := S2.tm (.ref a, .o i) (by simp)
      cases e'
      unfold updK at h2
      split at h2
      · rename_i i' j e1 _
        cases e1
        split at h2
        · rename_i kvs more ek em
          split at h2
          · rename_i hc
            obtain ⟨hij, hlen, hh⟩ := hc
            obtain ⟨b, hb, rfl⟩ : RvOk ⟨X.K, ρ⟩ B2 al2 y (.o j) := S2.top rfl
            obtain ⟨us, hus, pu⟩ := S2.ce i a _ ha' ek
            obtain ⟨ms, hms, pm⟩ := S2.ce j b _ hb em
            have nab : a ≠ b := fun z => by
              subst z
              exact hij ((List.getElem?_inj (List.getElem?_eq_some_iff.mp ha').1 S2.nd).mp (ha'.trans hb.symm))
            have lu := Paired.length pu
            have lm := Paired.length pm
            have em' : ms.map (·.1) = more.map (·.1) := by
              clear hms em hh hlen lm h2
              induction pm with
              | nil => rfl
              | cons a _ ih => rw [List.map_cons, List.map_cons, ih, a.1]
            refine ⟨a, b, us, ms, rfl, rfl, nab, hus, hms, by rw [sizeLine_eq]; omega, ?_, ?_⟩
            · rcases hh with hh | hh
              · left
                intro e
                exact hh (List.length_eq_zero_iff.mp (by rw [← lu, e]; rfl))
              · right
                unfold hashD at hh
                split at hh
                · rename_i nss hn
                  have hk := asKT_eq hn
                  have e2 : ms.map (fun p => tupleKeyHash (mixKind X.prog X.w) p.1) = nss.map hT := by
                    have : ms.map (fun p => tupleKeyHash (mixKind X.prog X.w) p.1) = (ms.map (·.1)).map (tupleKeyHash (mixKind X.prog X.w)) := by rw [List.map_map]; rfl
                    rw [this, em', hk, List.map_map]
                    refine List.map_congr_left fun ns _ => ?_
                    exact hT_eq X.prog X.w ns
                  rw [e2]
                  exact of_decide_eq_true hh
                · cases hh
            · have S3 := S2.put (o := .dT (putAllK us ms)) (ct' := .dT (putAllP kvs more)) ha' ek (fun z => nomatch z) ⟨_, upd_same, putAll_ok pu pm⟩
              exact q _ _ (.d .none) _ B2 al2 h2 ((S3.temps fun t ht => by simp [ht]).push .non)
          · exact h2.elim
        · exact h2.elim
      · exact h2.elim
    · rw [if_neg hd] at h1
      exact h1.elim
end
def sortTOK (g : G) : Option R → Out R
  | some (.d (.list ds)) => .ok (.o g.ce.length) { g with ce := g.ce ++ [.lst ds] }
  | _ => .no
def fSortTO (fs : FAr) : FE := fun g => (fs g).bind fun rs g1 => sortTOK g1 (clSortT g1 rs)
theorem fSortTO_ap (fs : FAr) (g : G) : fSortTO fs g = (fs g).bind fun rs g1 => sortTOK g1 (clSortT g1 rs) := id rfl
theorem sortTOK_of (g : G) (ds : List PyData) : sortTOK g (some (.d (.list ds))) = .ok (.o g.ce.length) { g with ce := g.ce ++ [.lst ds] } := id rfl
def cSortTO : DCl := fun rs g k => ∃ r nss, rs = [r] ∧ ((∃ kvs, dictAt g r = some (.dT kvs) ∧ kvs.map (·.1) = nss.map (·.map Sum.inl)) ∨ seqOf g r = some (false, nss.map tupD)) ∧ (nss.length < 2 ∨ ∀ ns ∈ nss, ns ≠ []) ∧ k (.o g.ce.length) { g with ce := g.ce ++ [.lst ((srtL nss).map tupD)] }
section
variable {ρ : Root} {X : Cx} {dx : DX} {e : Expr} {es : List Expr} {pos : Pos} {fs : FAr}
theorem pd_sortTO {p : Pos} {da : DA} (hc : X.calm = true) (hg : Gl X "sorted") (hm : X.mg "sorted" = none) (ha : PDA ρ X (e :: es) da) (he : starEach (e :: es) X.env = (false, eval e X.env) :: starEach es X.env := by rfl) (hpl : (backTo pos (starEach es X.env)).any (·.1) = false := by rfl) :
    PD ρ X (.Call (.Name "sorted" p) (e :: es) [] pos) (dCall cSortTO da) := by
  refine pd_callB (cr_sortTT hc) ?_ hg hm (by decide +kernel) ha (he := he) (hpl := hpl)
  rintro F g tm s H B al vs rs k Q S pr ⟨r, nss, rfl, hs, hn, hk⟩ q
  obtain ⟨v, rfl, hv⟩ := pair1 pr
  rcases hs with ⟨kvs, hd, ek⟩ | hs
  · left
    obtain ⟨a, rfl, -, us, h1, h2⟩ := S.dict hv hd
    have eu : us.map (·.1) = kvs.map (·.1) := by
      clear h1 hd ek
      induction h2 with
      | nil => rfl
      | cons a _ ih => rw [List.map_cons, List.map_cons, ih, a.1]
    refine ⟨a, us, nss, rfl, .inl h1, eu.trans ek, hn, fun bs ys p ib py pw hp => ?_⟩
    have eb := isk_keys ib (eu.trans ek)
    have hb := isk_get ib (eu.trans ek)
    have hy : ∀ b ∈ ys, ∃ ns : List Int, H b = some (.tup (ns.map V.int)) := fun b hm => by
      obtain ⟨ns, h, _⟩ := hb b (py.mem_iff.mp hm)
      exact ⟨ns, h⟩
    obtain ⟨B', eB, S', d⟩ := S.adoptTs hy
    have e1 : srtL nss = ys.map (keyH H) := srtL_eq (by rw [← eb]; exact py.map _) (by
      rw [List.pairwise_map]
      refine List.Pairwise.imp_of_mem (fun {t u} ht hu z => ?_) pw
      obtain ⟨n, hn'⟩ := hy t ht
      obtain ⟨m, hm'⟩ := hy u hu
      rw [keyH_of hn', keyH_of hm']
      exact leL_of_lex _ _ (z n m hn' hm'))
    rw [e1] at hk
    exact new_o S' hp d hk q
  · right
    obtain ⟨a, xs, rfl, h1, h2⟩ := S.seq hv hs
    have hb : ∀ a o, B a = some o → H a = some o := fun a o h => S.bh _ _ h
    obtain ⟨k1, k2⟩ := keysX_of hb h2
    refine ⟨a, xs, rfl, h1, fun x hx => ?_, ?_, fun ys p py pw hp => ?_⟩
    · obtain ⟨t, e, ht⟩ := k2 x hx
      exact ⟨t, keyX H x, e, .inl (.inl ht)⟩
    · refine hn.imp (fun h => by rw [← k1, List.length_map] at h; exact h) fun h x hx => ?_
      obtain ⟨t, e, ht⟩ := k2 x hx
      refine ⟨t, keyX H x, e, .inl (.inl ht), h _ ?_⟩
      rw [← k1]
      exact List.mem_map.mpr ⟨x, hx, rfl⟩
    · obtain ⟨mss, p1, q1⟩ := dq_permM py h2
      obtain ⟨k3, k4⟩ := keysX_of hb q1
      have e1 : srtL nss = mss := srtL_eq p1 (by
        rw [← k3, List.pairwise_map]
        refine List.Pairwise.imp_of_mem (fun {x y} hx hy z => ?_) pw
        obtain ⟨t, et, ht⟩ := k4 x hx
        obtain ⟨u, eu, hu⟩ := k4 y hy
        exact leL_of_lex _ _ (z t u _ _ et eu (.inl (.inl ht)) (.inl (.inl hu))))
      rw [e1] at hk
      exact new_o S hp q1 hk q
theorem q_sortTO {p : Pos} (hc : X.calm = true) (hg : Gl X "sorted") (hm : X.mg "sorted" = none) (ha : PFA ρ X dx (e :: es) fs) (he : starEach (e :: es) X.env = (false, eval e X.env) :: starEach es X.env := by rfl) (hpl : (backTo pos (starEach es X.env)).any (·.1) = false := by rfl) : PF ρ X dx (.Call (.Name "sorted" p) (e :: es) [] pos) (fSortTO fs) := pd_mono (pd_sortTO hc hg hm ha he hpl) fun g k h => go_mono (go_bind.mp h) fun rs g1 h1 => by
  cases hc : clSortT g1 rs with
  | none => rw [hc] at h1; exact h1.elim
  | some r =>
    rw [hc] at h1
    cases r with
    | d x =>
      cases x with
      | list ds =>
        obtain ⟨r, nss, e1, e2, e3, e4⟩ := sortT_says rs g1 (fun r' g' => g' = g1 ∧ r' = .d (.list ds)) _ hc ⟨rfl, rfl⟩
        obtain ⟨-, e4⟩ := e4
        cases e4
        exact ⟨r, nss, e1, e2, e3, h1⟩
      | _ => exact h1.elim
    | _ => exact h1.elim
end
end DL
set_option Elab.async false
set_option linter.all false
set_option maxRecDepth 100000
set_option maxHeartbeats 4000000
set_option autoImplicit false
namespace DL
open PySem PySem.Spec PyProof.Rows L2
theorem asOs_map : ∀ js : List Nat, asOs (js.map R.o) = some js
  | [] => rfl
  | j :: js => by
    show (asOs (js.map R.o)).map (j :: ·) = _
    rw [asOs_map js]
    rfl
def dLcL (di : DI) (dg : DG) (dt : DT) (de : DE) (ws : List Nat) : DE := fun g k => di g fun ds g1 => ∃ I : Nat → List Nat → List Ct → Prop, I 0 [] g1.ce ∧ ∀ i acc ce, I i acc ce →
  (i = ds.length → k (.l acc) ⟨g1.sl, ce⟩) ∧ ∀ x, ds[i]? = some x → acc.length < 100000 ∧ dg (.d x) ⟨wipeG g1.sl ws, ce⟩ fun g2 => dt g2 fun b g3 =>
    if b = true then de g3 fun y g4 => ∃ d, y = .o d ∧ I (i + 1) (acc ++ [d]) g4.ce else I (i + 1) acc g3.ce
def lcGoL (t : FG) (c : FT) (f : FE) (sl : List (Option R)) (ws : List Nat) : List PyData → List Nat → List Ct → Out (List Nat)
  | [], acc, ce => .ok acc ⟨sl, ce⟩
  | x :: ds, acc, ce => if acc.length < 100000 then match t (.d x) ⟨wipeG sl ws, ce⟩ with
    | .ok _ g2 => match c g2 with
      | .ok true g3 => match f g3 with
        | .ok (.o d) g4 => lcGoL t c f sl ws ds (acc ++ [d]) g4.ce
        | _ => .no
      | .ok false g3 => lcGoL t c f sl ws ds acc g3.ce
      | _ => .no
    | _ => .no else .no
def fLcL (i : FI) (t : FG) (c : FT) (f : FE) (ws : List Nat) : FE := fun g => (i g).bind fun ds g1 => (lcGoL t c f g1.sl ws ds [] g1.ce).bind fun acc g2 => .ok (.l acc) g2
theorem fLcL_ap (i : FI) (t : FG) (c : FT) (f : FE) (ws : List Nat) (g : G) : fLcL i t c f ws g = (i g).bind fun ds g1 => (lcGoL t c f g1.sl ws ds [] g1.ce).bind fun acc g2 => .ok (.l acc) g2 := id rfl
section
variable {ρ : Root} {X : Cx} {tg iter elt e c : Expr} {ifs : List Expr} {pos : Pos} {K : KR}
theorem ref_lcL {ws : List Nat} {di : DI} {dg : DG} {dt : DT} {de : DE} : ∀ s H Q, lift K (dLcL di dg dt de ws) s H Q → tLc (liftI K di) (liftG K ws dg) (liftT K dt) (lift K de) ws s H Q := by
  rintro s H Q ⟨F, g, tm, k, B, al, S, hk, q⟩
  have hk' := hk
  unfold dLcL at hk'
  refine ⟨F, g, tm, _, B, al, S, hk', fun J H1 ds g1 B1 al1 ⟨I, i0, turn⟩ S1 wk => ?_⟩
  intro D hD
  have nD : D ∉ al1 := S1.new_out hD
  have bD : B1 D = none := S1.bh.free hD
  obtain ⟨ts, ts1, ts2⟩ := slotTemps S1
  have hrb : Same K.rt.B B1 := S1.rb.trans S1.fb
  have hro : ∀ (xs : List V) a o, K.rt.O a = some o → (fmLc F B1 D xs).O a = some o := fun xs a o e => by
    have e1 := S1.ro a o e
    have ne : a ≠ D := fun z => by
      have z2 := (S1.fo a o e1).1
      rw [z, hD] at z2
      cases z2
    show upd F.O D (.lst xs) a = some o
    rw [upd_ne ne]
    exact e1
  -- the state within
  have start : Stt K (fmLc F B1 D []) ⟨wipeG g1.sl ws, g1.ce⟩ (ts ++ tm) (wipe s ws) (upd H1 D (.lst [])) B1 al1 := by
    have eH : Same H1 (upd H1 D (.lst [])) := same_new hD
    refine { rb := hrb, ro := hro _, rp := S.rp, ot := (fun a us e => by
        by_cases ha : a = D
        · subst ha
          have e' : upd F.O a (.lst []) a = some (.tup us) := e
          rw [upd_same] at e'; cases e'
        · have e' : upd F.O D (.lst []) a = some (.tup us) := e
          rw [upd_ne ha] at e'; exact S.ot a us e'), fb := Same.refl _, bh := S1.bh.trans eH, fo := ?_, pre := S1.pre, len := S1.len, nd := S1.nd, lv := ?_, nb := S1.nb, ce := ?_, sl := ?_, tm := ?_, sln := ?_ }
    · intro a o e
      by_cases ha : a = D
      · subst ha
        have e' : upd F.O a (.lst []) a = some o := e
        rw [upd_same] at e' ⊢
        exact ⟨e', bD, nD⟩
      · have e' : upd F.O D (.lst []) a = some o := e
        rw [upd_ne ha] at e'
        obtain ⟨h1, h2, h3⟩ := S1.fo a o e'
        exact ⟨eH _ _ h1, h2, h3⟩
    · intro a ha
      obtain ⟨o, e⟩ := S1.lv a ha
      exact ⟨o, eH _ _ e⟩
    · intro j a ct h1 h2
      exact ct_mono0 (Same.refl _) (fun o e => eH _ _ e) (S1.ce j a ct h1 h2)
    · intro i r e
      obtain ⟨e1, e2⟩ := wipeG_some e
      obtain ⟨v, h1, h2⟩ := S1.sl i r e1
      exact ⟨v, by rw [wipe_out e2]; exact h1, h2⟩
    · intro p hp
      rcases List.mem_append.mp hp with z | z
      · exact ts1 p z
      · exact S1.tm p z
    · rw [wipeG_length, wipe_length]; exact S1.sln
  have dqT : ∀ {F' : Fm} {g' : G} {xs : List V} {acc : List Nat} {s' : L2.St} {H' B' : Hp} {al' : List Addr}, xs.length = acc.length → Stt K F' g' (xs.zip (acc.map R.o) ++ (ts ++ tm)) s' H' B' al' → Paired (fun (x : V) (j : Nat) => ∃ a, al'[j]? = some a ∧ x = V.ref a) xs acc := fun {F' g' xs acc s' H' B' al'} hl Z => by
    have pr : Paired (RvOk K B' al') xs (acc.map R.o) := paired_of (by rw [List.length_map]; exact hl) fun p hp => Z.tm p (List.mem_append_left _ hp)
    exact asOs_paired pr (asOs_map acc)
  refine ⟨fun i m H => m = ds.length - i ∧ i ≤ ds.length ∧ ∃ acc xs ce B al, I i acc ce ∧ xs.length = acc.length ∧ Stt K (fmLc F B1 D xs) ⟨wipeG g1.sl ws, ce⟩ (xs.zip (acc.map R.o) ++ (ts ++ tm)) (wipe s ws) H B al, ⟨ds.length, rfl, Nat.zero_le _, [], [], g1.ce, B1, al1, i0, rfl, start⟩, ?_⟩
  rintro i m H2 ⟨rfl, hi, acc, xs, ce, B2, al2, hI, hx, S2⟩
  obtain ⟨t1, t2⟩ := turn i acc ce hI
  have dO : H2 D = some (.lst xs) ∧ B2 D = none ∧ D ∉ al2 := S2.fo D _ upd_same
  obtain ⟨w1, w2⟩ := wk _ _ _ (wipe s ws) H2 B2 al2 i S2 S2.fb
  by_cases hlt : i < ds.length
  · have hget : ds[i]? = some ds[i] := List.getElem?_eq_getElem hlt
    obtain ⟨go, yl⟩ := w1 _ hget
    obtain ⟨hz, hk2⟩ := t2 _ hget
    refine .inr ⟨go, fun H => ∃ acc xs ce B al, I (i + 1) acc ce ∧ xs.length = acc.length ∧ Stt K (fmLc F B1 D xs) ⟨wipeG g1.sl ws, ce⟩ (xs.zip (acc.map R.o) ++ (ts ++ tm)) (wipe s ws) H B al, fun H' ⟨acc', xs', ce', B', al', a1, a2, a3⟩ => ⟨ds.length - (i + 1), by omega, rfl, hlt, acc', xs', ce', B', al', a1, a2, a3⟩, fun x H3 hy => ?_⟩
    obtain ⟨B3, S3, e3, hd⟩ := yl x H3 hy
    -- the slots outside are as they were
    have back : ∀ {F' : Fm} {tm' : List (V × R)} {sl' : List (Option R)} {ce' : List Ct} {s' : L2.St} {H' B' : Hp} {al' : List Addr}, (∀ p ∈ ts, p ∈ tm') → Stt K F' ⟨sl', ce'⟩ tm' s' H' B' al' → Stt K F' ⟨wipeG g1.sl ws, ce'⟩ tm' (wipe s ws) H' B' al' := fun {F' tm' sl' ce' s' H' B' al'} hts Z =>
      { Z with
        sl := fun i r e => by
          obtain ⟨e1, e2⟩ := wipeG_some e
          obtain ⟨v, h1, h2⟩ := ts2 i r e1
          exact ⟨v, by rw [wipe_out e2]; exact h1, Z.tm _ (hts _ h2)⟩
        sln := by rw [wipeG_length, wipe_length]; exact S1.sln }
    refine ⟨_, _, _, .d _, _, B3, al2, S3, hd, hk2, fun s4 H4 g4 B4 al4 hk4 S4 wz => ⟨?_, ?_⟩⟩
    · rw [wz]
      refine List.ext_getElem? fun j => ?_
      by_cases hj : j ∈ ws
      · have gen : ∀ (us : List Nat) (q : L2.St), j ∈ us → (wipe q us)[j]? = if j < q.length then some none else none := by
          intro us
          induction us with
          | nil => intro q h; cases h
          | cons u us ih =>
            intro q h
            unfold wipe
            by_cases e : u = j
            · subst e
              by_cases hl : u < q.length
              · rw [List.getElem?_set_self (by rw [wipe_length]; exact hl), if_pos hl]
              · rw [List.getElem?_eq_none (by rw [List.length_set, wipe_length]; omega), if_neg hl]
            · rw [List.getElem?_set_ne e]
              refine ih q ?_
              rcases List.mem_cons.mp h with z | z
              · exact absurd z.symm e
              · exact z
        rw [gen ws _ hj, gen ws _ hj, wipe_length]
      · rw [wipe_out hj]
    · refine ⟨_, g4, _, _, B4, al4, S4, hk4, fun b H5 g5 B5 al5 hk5 S5 => ?_⟩
      cases b with
      | false =>
        have hk5 : I (i + 1) acc g5.ce := hk5
        exact iteF ⟨acc, xs, g5.ce, B5, al5, hk5, hx, back (fun p hp => List.mem_append_right _ (List.mem_append_left _ hp)) S5⟩
      | true =>
        refine iteT ⟨_, g5, _, _, B5, al5, S5, hk5, fun y H6 r6 g6 B6 al6 hk6 S6 => ?_⟩
        obtain ⟨d, er, hk6⟩ := hk6
        subst er
        have dO6 : H6 D = some (.lst xs) ∧ B6 D = none ∧ D ∉ al6 := S6.fo D _ upd_same
        have hy6 : RvOk K B6 al6 y (.o d) := S6.top rfl
        refine ⟨xs, dO6.1, by rw [hx]; exact sz_lt hz, acc ++ [d], xs ++ [y], g6.ce, B6, al6, hk6, by rw [List.length_append, List.length_append, hx]; rfl, ?_⟩
        have Z := back (fun p hp => List.mem_cons_of_mem _ (List.mem_append_right _ (List.mem_append_left _ hp))) S6
        refine { rb := hrb, ro := hro _, rp := S.rp, ot := (fun a us e => by
        by_cases ha : a = D
        · subst ha
          have e' : upd F.O a (.lst (xs ++ [y])) a = some (.tup us) := e
          rw [upd_same] at e'; cases e'
        · have e' : upd F.O D (.lst (xs ++ [y])) a = some (.tup us) := e
          rw [upd_ne ha] at e'; exact S.ot a us e'), fb := Z.fb, bh := same_mut Z.bh dO6.2.1, fo := ?_, pre := Z.pre, len := Z.len, nd := Z.nd, lv := ?_, nb := Z.nb, ce := ?_, sl := Z.sl, tm := ?_, sln := Z.sln }
        · intro a o e
          by_cases ha : a = D
          · subst ha
            have e' : upd F.O a (.lst (xs ++ [y])) a = some o := e
            rw [upd_same] at e' ⊢
            exact ⟨e', dO6.2.1, dO6.2.2⟩
          · have e' : upd F.O D (.lst (xs ++ [y])) a = some o := e
            rw [upd_ne ha] at e' ⊢
            exact Z.fo a o (show upd F.O D (.lst xs) a = some o by rw [upd_ne ha]; exact e')
        · intro a ha
          have ne : a ≠ D := fun z => dO6.2.2 (z ▸ ha)
          rw [upd_ne ne]
          exact Z.lv a ha
        · intro j a ct h1 h2
          have ne : a ≠ D := fun z => dO6.2.2 (z ▸ List.mem_of_getElem? h1)
          exact ct_mono0 (Same.refl _) (fun o e => by rw [upd_ne ne]; exact e) (Z.ce j a ct h1 h2)
        · intro p hp
          rcases List.mem_append.mp hp with z | z
          · rw [List.map_append, List.zip_append (by rw [List.length_map]; exact hx)] at z
            rcases List.mem_append.mp z with z | z
            · exact Z.tm p (List.mem_cons_of_mem _ (List.mem_append_left _ z))
            · have e : p = (y, R.o d) := List.mem_singleton.mp z
              rw [e]
              exact hy6
          · exact Z.tm p (List.mem_cons_of_mem _ (List.mem_append_right _ z))
  · have e : i = ds.length := by omega
    refine .inl ⟨w2 e, ?_⟩
    have hd := dqT hx S2
    have hk3 := t1 e
    have tsl : ∀ {B' : Hp} {al' : List Addr}, (∀ p ∈ ts ++ tm, RvOk K B' al' p.1 p.2) → ∀ (i : Nat) (r : R), g1.sl[i]? = some (some r) → ∃ v, s[i]? = some (some v) ∧ RvOk K B' al' v r := fun {B' al'} h i r er => by
      obtain ⟨v, h1, h2⟩ := ts2 i r er
      exact ⟨v, h1, h _ (List.mem_append_left _ h2)⟩
    have tmo : ∀ p ∈ ts ++ tm, RvOk K B2 al2 p.1 p.2 := fun p hp => S2.tm p (List.mem_append_right _ hp)
    have foo : ∀ a o, F.O a = some o → H2 a = some o ∧ B2 a = none ∧ a ∉ al2 ∧ a ≠ D := fun a o ha => by
      have ne : a ≠ D := fun z => by
        subst z
        have := (S1.fo a o ha).1
        rw [hD] at this
        cases this
      obtain ⟨h1, h2, h3⟩ := S2.fo a o (show upd F.O D (.lst xs) a = some o by rw [upd_ne ne]; exact ha)
      exact ⟨h1, h2, h3, ne⟩
    have eB : Same B2 (upd B2 D (.lst xs)) := same_new dO.2.1
    refine q _ _ _ _ (upd B2 D (.lst xs)) al2 hk3 ?_
    refine { rb := S.rb, ro := S.ro, rp := S.rp, ot := S.ot, fb := (S1.fb.trans S2.fb).trans eB, bh := ?_, fo := ?_, pre := S2.pre, len := S2.len, nd := S2.nd, lv := S2.lv, nb := ?_, ce := ?_, sl := ?_, tm := ?_, sln := S1.sln }
    · intro a o ea
      by_cases ha : a = D
      · subst ha; rw [upd_same] at ea; cases ea; exact dO.1
      · rw [upd_ne ha] at ea; exact S2.bh _ _ ea
    · intro a o ha
      obtain ⟨h1, h2, h3, h4⟩ := foo a o ha
      exact ⟨h1, by rw [upd_ne h4]; exact h2, h3⟩
    · intro j a ct h1 h2 h3
      have ne : a ≠ D := fun z => dO.2.2 (z ▸ List.mem_of_getElem? h1)
      rw [upd_ne ne]
      exact S2.nb j a ct h1 h2 h3
    · intro j a ct h1 h2
      exact ct_mono0 eB (fun o e => e) (S2.ce j a ct h1 h2)
    · exact tsl fun p hp => rv_mono0 eB (tmo p hp)
    · intro p hp
      rcases List.mem_cons.mp hp with z | z
      · rw [z]
        exact ⟨D, xs, rfl, upd_same, hd⟩
      · exact rv_mono0 eB (tmo p (List.mem_append_right _ z))
end
section
variable {ρ : Root} {X : Cx} {dx : DX} {tg iter elt : Expr} {ifs : List Expr} {pos : Pos} {scope : Scope} {own : List (Str × Nat)} {i : FI} {t : FG} {c : FT} {f : FE}
theorem rd_lcAtL {ws : List Nat} {k : List Nat → G → Prop} {sl : List (Option R)} {ds : List PyData} {ce : List Ct} (h : (lcGoL t c f sl ws ds [] ce).go dx k) :
    ∃ I : Nat → List Nat → List Ct → Prop, I 0 [] ce ∧ ∀ i acc ce, I i acc ce → (i = ds.length → k acc ⟨sl, ce⟩) ∧ ∀ x, ds[i]? = some x → acc.length < 100000 ∧ rG dx0 t (.d x) ⟨wipeG sl ws, ce⟩ fun g2 => rd dx0 c g2 fun b g3 =>
    if b = true then rd dx0 f g3 fun y g4 => ∃ d, y = .o d ∧ I (i + 1) (acc ++ [d]) g4.ce else I (i + 1) acc g3.ce := by
  have noex : ∀ (ds : List PyData) (acc : List Nat) (ce : List Ct) n g, lcGoL t c f sl ws ds acc ce ≠ .ex n g := by
    intro ds
    induction ds with
    | nil => intro acc ce n g z; cases z
    | cons x ds ih =>
      intro acc ce n g z
      unfold lcGoL at z
      split at z
      · split at z
        · split at z
          · split at z
            · exact ih _ _ _ _ z
            · cases z
          · exact ih _ _ _ _ z
          · cases z
        · cases z
      · cases z
  refine ⟨fun i acc ce => (lcGoL t c f sl ws (ds.drop i) acc ce).go dx0 k, ?_, fun i acc ce h => ⟨fun e => ?_, fun x hx => ?_⟩⟩
  · show (lcGoL t c f sl ws ds [] ce).go dx0 k
    cases hg : lcGoL t c f sl ws ds [] ce with
    | ok a g => rw [hg] at h; exact h
    | no => rw [hg] at h; exact h
    | ex n g => exact absurd hg (noex _ _ _ _ _)
  · have h : (lcGoL t c f sl ws (ds.drop i) acc ce).go dx0 k := h
    rw [List.drop_of_length_le (by omega)] at h
    exact h
  · have hl := (List.getElem?_eq_some_iff.mp hx).1
    have hx' : ds[i] = x := (List.getElem?_eq_some_iff.mp hx).2
    have h : (lcGoL t c f sl ws (ds.drop i) acc ce).go dx0 k := h
    rw [List.drop_eq_getElem_cons hl, hx'] at h
    unfold lcGoL at h
    split at h
    · rename_i ha
      refine ⟨ha, ?_⟩
      unfold rG rd
      split at h
      · rename_i g2 ht
        rw [ht]
        show (c g2).go dx0 _
        split at h
        · rename_i g3 hc
          rw [hc]
          simp only [Out.go, if_true]
          split at h
          · rename_i d g4 hf
            rw [hf]
            exact ⟨d, rfl, h⟩
          · exact h.elim
        · rename_i g3 hc
          rw [hc]
          simp only [Out.go, Bool.false_eq_true, if_false]
          exact h
        · exact h.elim
      · exact h.elim
    · exact h.elim
theorem rd_lcL {ws : List Nat} : ∀ g k, rd dx (fLcL i t c f ws) g k → dLcL (rd dx i) (rG dx0 t) (rd dx0 c) (rd dx0 f) ws g k := fun g k h => go_mono (go_bind.mp h) fun ds g1 h1 => rd_lcAtL (k := fun acc g => k (.l acc) g) (go_bind.mp h1)
theorem qs_setLcL {j : Nat} {y : Str} {py spos : Pos} (hc : X.calm = true) (hN : X.N.Nodup) (hy : X.N[j]? = some y) (hyl : X.env.scope.names.lookup y = some .local)
    (hsw : swapsWith (.ListComp elt [⟨tg, iter, ifs, 0⟩] scope pos) (some (.Name y py)) spos.line X.env = pure true) (hi : PFI ρ X dx tg iter i) (ok : BlkOk X.N X.env.scope scope own)
    (hg : ∀ (s : Shared) (H : Hp) (C : Addr) (cl : List (Str × Addr)) (fp : List Addr), PFG ρ (X.blk s H scope (compEnvC scope cl C X.env) fp) dx0 (own.map (·.2)) tg t)
    (ht : ∀ (s : Shared) (H : Hp) (C : Addr) (cl : List (Str × Addr)) (fp : List Addr), PFTs ρ (X.blk s H scope (compEnvC scope cl C X.env) fp) dx0 ifs c)
    (he : ∀ (s : Shared) (H : Hp) (C : Addr) (cl : List (Str × Addr)) (fp : List Addr), PF ρ (X.blk s H scope (compEnvC scope cl C X.env) fp) dx0 elt f) (hs : ∀ x, foldedSetIterable iter X.env x = pure x := by intro _; rfl) :
    PFS ρ X dx (.Assign [.Name y py] (.ListComp elt [⟨tg, iter, ifs, 0⟩] scope pos) spos) (sSet (fLcL i t c f (own.map (·.2))) (tN j)) :=
  pds_mono (ps_imp (ps_setLc hc hN hy hyl hsw hi ok hg ht he hs) fun D s H h => ref_lcL s H _ (ref_asgN D s H h)) fun E g h => rd_lcL g _ (go_mono (go_bind.mp h) fun r g1 h1 => h1)
end
end DL
set_option Elab.async false
set_option linter.all false
set_option maxRecDepth 100000
set_option maxHeartbeats 4000000
set_option autoImplicit false
namespace DL
open PySem PySem.Spec PyProof.Rows L2
def frzLK (r : R) (g : G) : Out R := match r with
  | .l js => match frzs (js.map .o) g with
    | some (ds, g') => .ok (.d (.list ds)) g'
    | none => .no
  | _ => .no
def fFrzL (f : FE) : FE := fun g => (f g).bind frzLK
theorem fFrzL_ap (f : FE) (g : G) : fFrzL f g = (f g).bind frzLK := id rfl
theorem frzLK_of {js : List Nat} {g g' : G} {ds : List PyData} (h : frzs (js.map .o) g = some (ds, g')) : frzLK (.l js) g = .ok (.d (.list ds)) g' := by
  show (match frzs (js.map .o) g with
    | some (ds, g') => (.ok (.d (.list ds)) g' : Out R)
    | none => .no) = _
  rw [h]
theorem owns_rv {K : KR} {B : Hp} {al : List Addr} : ∀ {xs : List V} {js : List Nat}, Paired (fun (x : V) (j : Nat) => ∃ a, al[j]? = some a ∧ x = V.ref a) xs js → Paired (RvOk K B al) xs (js.map R.o)
  | [], [], .nil => .nil
  | _ :: _, _ :: _, .cons a t => .cons a (owns_rv t)
section
variable {ρ : Root} {X : Cx} {dx : DX} {e o : Expr} {f : FE} {es : List Expr} {fs : FAr}
theorem q_frzL (h : PF ρ X dx e f) : PF ρ X dx e (fFrzL f) := pe_imp h fun s H Q ⟨F, g, tm, k, B, al, S, hk, q⟩ =>
  ⟨F, g, tm, _, B, al, S, go_bind.mp hk, fun v H1 r g1 B1 al1 h1 S1 => by
    have h1 : (frzLK r g1).go dx k := h1
    unfold frzLK at h1
    split at h1
    · rename_i js _
      split at h1
      · rename_i ds g' hf
        obtain ⟨p, xs, rfl, hp, pj⟩ : RvOk ⟨X.K, ρ⟩ B1 al1 v (.l js) := S1.top rfl
        have pr : Paired (RvOk ⟨X.K, ρ⟩ B1 al1) xs (js.map R.o) := owns_rv pj
        obtain ⟨B', eB, hd, S'⟩ := frzs_ok pr hf S1
        exact q _ H1 (.d (.list ds)) g' B' al1 h1 ((S'.temps fun t ht => List.mem_cons_of_mem _ ht).push (.lst (eB _ _ hp) hd))
      · exact h1.elim
    · exact h1.elim⟩
def mtRemove : Mt := fun g r rs => match rs with
  | [.d (.int i)] => onL (fun ds => match asInts ds with
    | some ns => if i ∈ ns then some (.d .none, (ns.erase i).map .int) else none
    | none => none) g r
  | _ => none
def mRemove : DM := fun r rs g k => ∃ j ns i, r = .o j ∧ rs = [.d (.int i)] ∧ g.ce[j]? = some (.lst (zD ns)) ∧ i ∈ ns ∧ k (.d .none) { g with ce := g.ce.set j (.lst (zD (ns.erase i))) }
theorem erase_idx {ns : List Int} {i : Int} (h : i ∈ ns) : ns[ns.idxOf i]? = some i ∧ (∀ m : Nat, m < ns.idxOf i → ns[m]? ≠ some i) ∧ ns.eraseIdx (ns.idxOf i) = ns.erase i := by
  induction ns with
  | nil => cases h
  | cons n ns ih =>
    by_cases e : n = i
    · subst e
      have : (n :: ns).idxOf n = 0 := by simp
      rw [this]
      exact ⟨rfl, fun m hm => absurd hm (Nat.not_lt_zero _), by simp⟩
    · have hm : i ∈ ns := (List.mem_cons.mp h).elim (fun z => absurd z.symm e) id
      obtain ⟨h1, h2, h3⟩ := ih hm
      have ei : (n :: ns).idxOf i = ns.idxOf i + 1 := by
        rw [List.idxOf_cons, show (n == i) = false from by simpa using e]
        rfl
      rw [ei]
      refine ⟨by simpa using h1, fun m hm' => ?_, ?_⟩
      · cases m with
        | zero => intro z; exact e (Option.some.inj z)
        | succ m => exact fun z => h2 m (by omega) (by simpa using z)
      · rw [List.eraseIdx_cons_succ, h3, List.erase_cons_tail (by simpa using e)]
theorem ref_remove {K : KR} : RefM K rRemI mRemove := by
  rintro F g tm s H B al x vs r0 rs k Q S hx pr ⟨j, ns, i, rfl, rfl, hc, hi, hk⟩ q
  obtain ⟨p, hp, rfl⟩ := hx
  obtain ⟨v, rfl, hv⟩ := pair1 pr
  cases dq_int hv
  obtain ⟨xs, h1, h2⟩ := S.ce j p _ hp hc
  cases dqall_ints (ns := ns) h2
  obtain ⟨e1, e2, e3⟩ := erase_idx hi
  refine ⟨p, ns, i, ns.idxOf i, rfl, rfl, h1, e1, e2, ?_⟩
  rw [e3]
  exact q _ _ _ _ B al hk (S.put hp hc (by simp) ⟨_, upd_same, dq_ints _⟩) Dq.non
theorem sm_remove : SaysM mtRemove mRemove := fun r rs g k q g' e hk => by
  unfold mtRemove at e
  split at e
  · obtain ⟨j, ds, es, rfl, h1, h2, rfl⟩ := onL_eq e
    split at h2
    · rename_i ns hn
      split at h2
      · rename_i hi
        cases h2
        cases asInts_eq hn
        exact ⟨j, ns, _, rfl, rfl, h1, hi, hk⟩
      · cases h2
    · cases h2
  · cases e
theorem q_remove {apos cpos : Pos} (ho : PF ρ X dx o f) (ha : PFA ρ X dx (e :: es) fs)
    (hbase : attributeBase o "remove" X.env (eval o X.env) = eval o X.env := by rfl)
    (hfew : ((backTo cpos (starEach (e :: es) X.env)).all (fun x => !x.1) && (backToKw cpos (keywordEach [] X.env)).all (fun x => x.1.isSome) && decide ((e :: es).length + ([] : List Keyword).length + (if ([] : List Keyword).isEmpty then 0 else 1) < 30)) = true := by rfl)
    (hline : (apos.endLine == cpos.line) = true := by rfl) (hs : starEach (e :: es) X.env = (false, eval e X.env) :: starEach es X.env := by rfl) (hplain : (backTo cpos (starEach es X.env)).any (·.1) = false := by rfl) :
    PF ρ X dx (.Call (.Attribute o "remove" apos) (e :: es) [] cpos) (fMt mtRemove f fs) := pd_mono (pd_meth PySem.F.slot_list_remove PySem.F.type_list_remove mt_remove ref_remove ho ha hbase hfew hline hs hplain) (rd_mt sm_remove)
end
theorem mtRemove_o {g : G} {j : Nat} {ns : List Int} {i : Int} (h : g.ce[j]? = some (.lst (zD ns))) (hi : i ∈ ns) : mtRemove g (.o j) [.d (.int i)] = some (.d .none, putC g j (.lst (zD (ns.erase i)))) := by
  show onL _ g (.o j) = _
  unfold onL
  simp only [h, asInts_map, hi, if_true, Option.map_some]
end DL
set_option Elab.async false
set_option linter.all false
set_option maxRecDepth 100000
set_option maxHeartbeats 4000000
set_option autoImplicit false
namespace DL
open PySem PySem.Spec PyProof.Rows L2
def liftN (K : KR) (d : DE) : TE := fun s H Q => ∃ F g tm k B al, Stt K F g tm s H B al ∧ d g k ∧ ∀ D H' r g' B' al', F.B D = none → k r g' → Stt K F g' ((.ref D, r) :: tm) s H' B' al' → Q (.ref D) H'
section
variable {ρ : Root} {X : Cx} {tg iter elt e c : Expr} {ifs : List Expr} {pos : Pos} {K : KR}
theorem ref_lcN {ws : List Nat} {di : DI} {dg : DG} {dt : DT} {de : DE} : ∀ s H Q, liftN K (dLc di dg dt de ws) s H Q → tLc (liftI K di) (liftG K ws dg) (liftT K dt) (lift K de) ws s H Q := by
  rintro s H Q ⟨F, g, tm, k, B, al, S, hk, q⟩
  have hk' := hk
  unfold dLc at hk'
  refine ⟨F, g, tm, _, B, al, S, hk', fun J H1 ds g1 B1 al1 ⟨I, i0, turn⟩ S1 wk => ?_⟩
  intro D hD
  have nD : D ∉ al1 := S1.new_out hD
  have bD : B1 D = none := S1.bh.free hD
  obtain ⟨ts, ts1, ts2⟩ := slotTemps S1
  have hrb : Same K.rt.B B1 := S1.rb.trans S1.fb
  have hro : ∀ (xs : List V) a o, K.rt.O a = some o → (fmLc F B1 D xs).O a = some o := fun xs a o e => by
    have e1 := S1.ro a o e
    have ne : a ≠ D := fun z => by
      have z2 := (S1.fo a o e1).1
      rw [z, hD] at z2
      cases z2
    show upd F.O D (.lst xs) a = some o
    rw [upd_ne ne]
    exact e1
  -- the state within
  have start : Stt K (fmLc F B1 D []) ⟨wipeG g1.sl ws, g1.ce⟩ (ts ++ tm) (wipe s ws) (upd H1 D (.lst [])) B1 al1 := by
    have eH : Same H1 (upd H1 D (.lst [])) := same_new hD
    refine { rb := hrb, ro := hro _, rp := S.rp, ot := (fun a us e => by
        by_cases ha : a = D
        · subst ha
          have e' : upd F.O a (.lst []) a = some (.tup us) := e
          rw [upd_same] at e'; cases e'
        · have e' : upd F.O D (.lst []) a = some (.tup us) := e
          rw [upd_ne ha] at e'; exact S.ot a us e'), fb := Same.refl _, bh := S1.bh.trans eH, fo := ?_, pre := S1.pre, len := S1.len, nd := S1.nd, lv := ?_, nb := S1.nb, ce := ?_, sl := ?_, tm := ?_, sln := ?_ }
    · intro a o e
      by_cases ha : a = D
      · subst ha
        have e' : upd F.O a (.lst []) a = some o := e
        rw [upd_same] at e' ⊢
        exact ⟨e', bD, nD⟩
      · have e' : upd F.O D (.lst []) a = some o := e
        rw [upd_ne ha] at e'
        obtain ⟨h1, h2, h3⟩ := S1.fo a o e'
        exact ⟨eH _ _ h1, h2, h3⟩
    · intro a ha
      obtain ⟨o, e⟩ := S1.lv a ha
      exact ⟨o, eH _ _ e⟩
    · intro j a ct h1 h2
      exact ct_mono0 (Same.refl _) (fun o e => eH _ _ e) (S1.ce j a ct h1 h2)
    · intro i r e
      obtain ⟨e1, e2⟩ := wipeG_some e
      obtain ⟨v, h1, h2⟩ := S1.sl i r e1
      exact ⟨v, by rw [wipe_out e2]; exact h1, h2⟩
    · intro p hp
      rcases List.mem_append.mp hp with z | z
      · exact ts1 p z
      · exact S1.tm p z
    · rw [wipeG_length, wipe_length]; exact S1.sln
  have dqT : ∀ {F' : Fm} {g' : G} {xs : List V} {acc : List PyData} {s' : L2.St} {H' B' : Hp} {al' : List Addr}, xs.length = acc.length → Stt K F' g' (xs.zip (acc.map R.d) ++ (ts ++ tm)) s' H' B' al' → DqAll B' xs acc := fun {F' g' xs acc s' H' B' al'} hl Z =>
    dqall_paired (K := K) (al := al') (paired_of (by rw [List.length_map]; exact hl) fun p hp => Z.tm p (List.mem_append_left _ hp))
  refine ⟨fun i m H => m = ds.length - i ∧ i ≤ ds.length ∧ ∃ acc xs ce B al, I i acc ce ∧ xs.length = acc.length ∧ Stt K (fmLc F B1 D xs) ⟨wipeG g1.sl ws, ce⟩ (xs.zip (acc.map R.d) ++ (ts ++ tm)) (wipe s ws) H B al, ⟨ds.length, rfl, Nat.zero_le _, [], [], g1.ce, B1, al1, i0, rfl, start⟩, ?_⟩
  rintro i m H2 ⟨rfl, hi, acc, xs, ce, B2, al2, hI, hx, S2⟩
  obtain ⟨t1, t2⟩ := turn i acc ce hI
  have dO : H2 D = some (.lst xs) ∧ B2 D = none ∧ D ∉ al2 := S2.fo D _ upd_same
  obtain ⟨w1, w2⟩ := wk _ _ _ (wipe s ws) H2 B2 al2 i S2 S2.fb
  by_cases hlt : i < ds.length
  · have hget : ds[i]? = some ds[i] := List.getElem?_eq_getElem hlt
    obtain ⟨go, yl⟩ := w1 _ hget
    obtain ⟨hz, hk2⟩ := t2 _ hget
    refine .inr ⟨go, fun H => ∃ acc xs ce B al, I (i + 1) acc ce ∧ xs.length = acc.length ∧ Stt K (fmLc F B1 D xs) ⟨wipeG g1.sl ws, ce⟩ (xs.zip (acc.map R.d) ++ (ts ++ tm)) (wipe s ws) H B al, fun H' ⟨acc', xs', ce', B', al', a1, a2, a3⟩ => ⟨ds.length - (i + 1), by omega, rfl, hlt, acc', xs', ce', B', al', a1, a2, a3⟩, fun x H3 hy => ?_⟩
    obtain ⟨B3, S3, e3, hd⟩ := yl x H3 hy
    -- the slots outside are as they were
    have back : ∀ {F' : Fm} {tm' : List (V × R)} {sl' : List (Option R)} {ce' : List Ct} {s' : L2.St} {H' B' : Hp} {al' : List Addr}, (∀ p ∈ ts, p ∈ tm') → Stt K F' ⟨sl', ce'⟩ tm' s' H' B' al' → Stt K F' ⟨wipeG g1.sl ws, ce'⟩ tm' (wipe s ws) H' B' al' := fun {F' tm' sl' ce' s' H' B' al'} hts Z =>
      { Z with
        sl := fun i r e => by
          obtain ⟨e1, e2⟩ := wipeG_some e
          obtain ⟨v, h1, h2⟩ := ts2 i r e1
          exact ⟨v, by rw [wipe_out e2]; exact h1, Z.tm _ (hts _ h2)⟩
        sln := by rw [wipeG_length, wipe_length]; exact S1.sln }
    refine ⟨_, _, _, .d _, _, B3, al2, S3, hd, hk2, fun s4 H4 g4 B4 al4 hk4 S4 wz => ⟨?_, ?_⟩⟩
    · rw [wz]
      refine List.ext_getElem? fun j => ?_
      by_cases hj : j ∈ ws
      · have gen : ∀ (us : List Nat) (q : L2.St), j ∈ us → (wipe q us)[j]? = if j < q.length then some none else none := by
          intro us
          induction us with
          | nil => intro q h; cases h
          | cons u us ih =>
            intro q h
            unfold wipe
            by_cases e : u = j
            · subst e
              by_cases hl : u < q.length
              · rw [List.getElem?_set_self (by rw [wipe_length]; exact hl), if_pos hl]
              · rw [List.getElem?_eq_none (by rw [List.length_set, wipe_length]; omega), if_neg hl]
            · rw [List.getElem?_set_ne e]
              refine ih q ?_
              rcases List.mem_cons.mp h with z | z
              · exact absurd z.symm e
              · exact z
        rw [gen ws _ hj, gen ws _ hj, wipe_length]
      · rw [wipe_out hj]
    · refine ⟨_, g4, _, _, B4, al4, S4, hk4, fun b H5 g5 B5 al5 hk5 S5 => ?_⟩
      cases b with
      | false =>
        have hk5 : I (i + 1) acc g5.ce := hk5
        exact iteF ⟨acc, xs, g5.ce, B5, al5, hk5, hx, back (fun p hp => List.mem_append_right _ (List.mem_append_left _ hp)) S5⟩
      | true =>
        refine iteT ⟨_, g5, _, _, B5, al5, S5, hk5, fun y H6 r6 g6 B6 al6 hk6 S6 => ?_⟩
        obtain ⟨d, er, hk6⟩ := hk6
        subst er
        have dO6 : H6 D = some (.lst xs) ∧ B6 D = none ∧ D ∉ al6 := S6.fo D _ upd_same
        have hy6 : Dq B6 y d := S6.top rfl
        refine ⟨xs, dO6.1, by rw [hx]; exact sz_lt hz, acc ++ [d], xs ++ [y], g6.ce, B6, al6, hk6, by rw [List.length_append, List.length_append, hx]; rfl, ?_⟩
        have Z := back (fun p hp => List.mem_cons_of_mem _ (List.mem_append_right _ (List.mem_append_left _ hp))) S6
        refine { rb := hrb, ro := hro _, rp := S.rp, ot := (fun a us e => by
        by_cases ha : a = D
        · subst ha
          have e' : upd F.O a (.lst (xs ++ [y])) a = some (.tup us) := e
          rw [upd_same] at e'; cases e'
        · have e' : upd F.O D (.lst (xs ++ [y])) a = some (.tup us) := e
          rw [upd_ne ha] at e'; exact S.ot a us e'), fb := Z.fb, bh := same_mut Z.bh dO6.2.1, fo := ?_, pre := Z.pre, len := Z.len, nd := Z.nd, lv := ?_, nb := Z.nb, ce := ?_, sl := Z.sl, tm := ?_, sln := Z.sln }
        · intro a o e
          by_cases ha : a = D
          · subst ha
            have e' : upd F.O a (.lst (xs ++ [y])) a = some o := e
            rw [upd_same] at e' ⊢
            exact ⟨e', dO6.2.1, dO6.2.2⟩
          · have e' : upd F.O D (.lst (xs ++ [y])) a = some o := e
            rw [upd_ne ha] at e' ⊢
            exact Z.fo a o (show upd F.O D (.lst xs) a = some o by rw [upd_ne ha]; exact e')
        · intro a ha
          have ne : a ≠ D := fun z => dO6.2.2 (z ▸ ha)
          rw [upd_ne ne]
          exact Z.lv a ha
        · intro j a ct h1 h2
          have ne : a ≠ D := fun z => dO6.2.2 (z ▸ List.mem_of_getElem? h1)
          exact ct_mono0 (Same.refl _) (fun o e => by rw [upd_ne ne]; exact e) (Z.ce j a ct h1 h2)
        · intro p hp
          rcases List.mem_append.mp hp with z | z
          · rw [List.map_append, List.zip_append (by rw [List.length_map]; exact hx)] at z
            rcases List.mem_append.mp z with z | z
            · exact Z.tm p (List.mem_cons_of_mem _ (List.mem_append_left _ z))
            · have e : p = (y, R.d d) := List.mem_singleton.mp z
              rw [e]
              exact hy6
          · exact Z.tm p (List.mem_cons_of_mem _ (List.mem_append_right _ z))
  · have e : i = ds.length := by omega
    refine .inl ⟨w2 e, ?_⟩
    have hd := dqT hx S2
    have hk3 := t1 e
    have tsl : ∀ {B' : Hp} {al' : List Addr}, (∀ p ∈ ts ++ tm, RvOk K B' al' p.1 p.2) → ∀ (i : Nat) (r : R), g1.sl[i]? = some (some r) → ∃ v, s[i]? = some (some v) ∧ RvOk K B' al' v r := fun {B' al'} h i r er => by
      obtain ⟨v, h1, h2⟩ := ts2 i r er
      exact ⟨v, h1, h _ (List.mem_append_left _ h2)⟩
    have tmo : ∀ p ∈ ts ++ tm, RvOk K B2 al2 p.1 p.2 := fun p hp => S2.tm p (List.mem_append_right _ hp)
    have foo : ∀ a o, F.O a = some o → H2 a = some o ∧ B2 a = none ∧ a ∉ al2 ∧ a ≠ D := fun a o ha => by
      have ne : a ≠ D := fun z => by
        subst z
        have := (S1.fo a o ha).1
        rw [hD] at this
        cases this
      obtain ⟨h1, h2, h3⟩ := S2.fo a o (show upd F.O D (.lst xs) a = some o by rw [upd_ne ne]; exact ha)
      exact ⟨h1, h2, h3, ne⟩
    have eB : Same B2 (upd B2 D (.lst xs)) := same_new dO.2.1
    have fD : F.B D = none := by
      cases z : F.B D with
      | none => rfl
      | some o => rw [S1.bh _ _ (S1.fb _ _ z)] at hD; cases hD
    refine q D _ _ _ (upd B2 D (.lst xs)) al2 fD hk3 ?_
    refine { rb := S.rb, ro := S.ro, rp := S.rp, ot := S.ot, fb := (S1.fb.trans S2.fb).trans eB, bh := ?_, fo := ?_, pre := S2.pre, len := S2.len, nd := S2.nd, lv := S2.lv, nb := ?_, ce := ?_, sl := ?_, tm := ?_, sln := S1.sln }
    · intro a o ea
      by_cases ha : a = D
      · subst ha; rw [upd_same] at ea; cases ea; exact dO.1
      · rw [upd_ne ha] at ea; exact S2.bh _ _ ea
    · intro a o ha
      obtain ⟨h1, h2, h3, h4⟩ := foo a o ha
      exact ⟨h1, by rw [upd_ne h4]; exact h2, h3⟩
    · intro j a ct h1 h2 h3
      have ne : a ≠ D := fun z => dO.2.2 (z ▸ List.mem_of_getElem? h1)
      rw [upd_ne ne]
      exact S2.nb j a ct h1 h2 h3
    · intro j a ct h1 h2
      exact ct_mono0 eB (fun o e => e) (S2.ce j a ct h1 h2)
    · exact tsl fun p hp => rv_mono0 eB (tmo p hp)
    · intro p hp
      rcases List.mem_cons.mp hp with z | z
      · rw [z]
        exact Dq.lst upd_same (dqall_mono eB hd)
      · exact rv_mono0 eB (tmo p (List.mem_append_right _ z))
end
def lcNK (g : G) : Out R → Out R
  | .ok (.d (.list ds)) _ => if ds.all isSc then .ok (.d (.list ds)) g else .no
  | _ => .no
def fLcN (i : FI) (t : FG) (c : FT) (f : FE) (ws : List Nat) : FE := fun g => lcNK g (fLc i t c f ws (gLoan g))
theorem fLcN_ap (i : FI) (t : FG) (c : FT) (f : FE) (ws : List Nat) (g : G) : fLcN i t c f ws g = lcNK g (fLc i t c f ws (gLoan g)) := id rfl
theorem lcNK_of (g g' : G) {ds : List PyData} (h : ds.all isSc = true) : lcNK g (.ok (.d (.list ds)) g') = .ok (.d (.list ds)) g := by
  show (if ds.all isSc then (.ok (.d (.list ds)) g : Out R) else .no) = _
  rw [if_pos h]
theorem dqall_sc {B B' : Hp} : ∀ {xs : List V} {ds : List PyData}, ds.all isSc = true → DqAll B xs ds → DqAll B' xs ds
  | _, _, _, .nil => .nil
  | _, _, h, .cons a t => by
    rw [List.all_cons, Bool.and_eq_true] at h
    exact .cons (dq_sc h.1 a) (dqall_sc h.2 t)
section
variable {ρ : Root} {X : Cx} {dx : DX} {tg iter elt : Expr} {ifs : List Expr} {pos : Pos} {scope : Scope} {own : List (Str × Nat)} {i : FI} {t : FG} {c : FT} {f : FE} {K : KR}
theorem ref_lcNN {ws : List Nat} : ∀ s H Q, lift K (rd dx (fLcN i t c f ws)) s H Q → tLc (liftI K (rd dx i)) (liftG K ws (rG dx0 t)) (liftT K (rd dx0 c)) (lift K (rd dx0 f)) ws s H Q := fun s H Q ⟨F, g, tm, k, B, al, S, hk, q⟩ => by
  refine ref_lcN s H Q ⟨⟨allB H B al, F.O, F.P⟩, gLoan g, tm, fun r _ => ∃ ds, r = .d (.list ds) ∧ ds.all isSc = true ∧ k (.d (.list ds)) g, allB H B al, al, S.lend, rd_lc _ _ ?_, fun D H' r g' B' al' fD ⟨ds, er, hs, hk'⟩ S' => ?_⟩
  · have hk : (lcNK g (fLc i t c f ws (gLoan g))).go dx k := hk
    show (fLc i t c f ws (gLoan g)).go dx _
    cases hf : fLc i t c f ws (gLoan g) with
    | no => rw [hf] at hk; exact hk
    | ex n g' => rw [hf] at hk; exact hk.elim
    | ok r g' =>
      rw [hf] at hk
      cases r with
      | d x =>
        cases x with
        | list ds =>
          have hk : (if ds.all isSc then (.ok (.d (.list ds)) g : Out R) else .no).go dx k := hk
          by_cases hs : ds.all isSc = true
          · rw [if_pos hs] at hk
            exact ⟨ds, rfl, hs, hk⟩
          · rw [if_neg hs] at hk
            exact hk.elim
        | _ => exact hk.elim
      | _ => exact hk.elim
  · subst er
    obtain ⟨a, xs, ea, h1, h2⟩ := dq_list (S'.top rfl)
    cases ea
    have nal : D ∉ al := fun z => by
      obtain ⟨o, ho⟩ := S.lv D z
      have : allB H B al D = H D := allB_in z
      rw [show (⟨allB H B al, F.O, F.P⟩ : Fm).B D = allB H B al D from rfl, this, ho] at fD
      cases fD
    have nB : B D = none := by
      have : allB H B al D = B D := allB_out nal
      rw [← this]; exact fD
    have nO : F.O D = none := by
      cases z : F.O D with
      | none => rfl
      | some o =>
        have := (S'.fo D o z).2.1
        rw [h1] at this
        cases this
    have SU := S.unlend S'
    have S2 := SU.adopt (S'.bh _ _ h1) nB nal nO
    exact q (.ref D) H' (.d (.list ds)) g (upd B D (.lst xs)) al hk' (S2.push (.lst upd_same (dqall_sc hs h2)))
theorem qs_setLcN {j : Nat} {y : Str} {py spos : Pos} (hc : X.calm = true) (hN : X.N.Nodup) (hy : X.N[j]? = some y) (hyl : X.env.scope.names.lookup y = some .local)
    (hsw : swapsWith (.ListComp elt [⟨tg, iter, ifs, 0⟩] scope pos) (some (.Name y py)) spos.line X.env = pure true) (hi : PFI ρ X dx tg iter i) (ok : BlkOk X.N X.env.scope scope own)
    (hg : ∀ (s : Shared) (H : Hp) (C : Addr) (cl : List (Str × Addr)) (fp : List Addr), PFG ρ (X.blk s H scope (compEnvC scope cl C X.env) fp) dx0 (own.map (·.2)) tg t)
    (ht : ∀ (s : Shared) (H : Hp) (C : Addr) (cl : List (Str × Addr)) (fp : List Addr), PFTs ρ (X.blk s H scope (compEnvC scope cl C X.env) fp) dx0 ifs c)
    (he : ∀ (s : Shared) (H : Hp) (C : Addr) (cl : List (Str × Addr)) (fp : List Addr), PF ρ (X.blk s H scope (compEnvC scope cl C X.env) fp) dx0 elt f) (hs : ∀ x, foldedSetIterable iter X.env x = pure x := by intro _; rfl) :
    PFS ρ X dx (.Assign [.Name y py] (.ListComp elt [⟨tg, iter, ifs, 0⟩] scope pos) spos) (sSet (fLcN i t c f (own.map (·.2))) (tN j)) :=
  ps_imp (ps_setLc hc hN hy hyl hsw hi ok hg ht he hs) fun D s H ⟨F, g, tm, E, B, al, S, hk, ok⟩ => ref_lcNN s H _ (ref_asgN D s H ⟨F, g, tm, E, B, al, S, (go_mono (go_bind.mp hk) fun r g1 h1 => h1), ok⟩)
end
end DL
set_option Elab.async false
set_option linter.all false
set_option maxRecDepth 100000
set_option maxHeartbeats 4000000
set_option autoImplicit false
namespace DL
open PySem PySem.Spec PyProof.Rows L2
def lexLt (ns ms : List Int) : Bool := Ob.lexAt (fun j => decide (ns.getD j 0 = ms.getD j 0)) (fun j => decide (ns.getD j 0 < ms.getD j 0)) (decide (ns.length < ms.length)) 0 (min ns.length ms.length)
end DL
set_option Elab.async false
set_option linter.all false
set_option maxRecDepth 100000
set_option maxHeartbeats 4000000
set_option autoImplicit false
namespace DL
open PySem PySem.Spec PyProof.Rows L2
end DL
set_option Elab.async false
set_option linter.all false
set_option maxRecDepth 100000
set_option maxHeartbeats 4000000
set_option autoImplicit false
namespace DL
open PySem PySem.Spec PyProof.Rows L2 PySem.W
end DL
set_option Elab.async false
set_option linter.all false
set_option maxRecDepth 100000
set_option maxHeartbeats 4000000
set_option autoImplicit false
namespace DL
open PySem PySem.Spec PyProof.Rows L2 PySem.W
end DL
set_option Elab.async false
set_option linter.all false
set_option maxRecDepth 100000
set_option maxHeartbeats 4000000
set_option autoImplicit false
namespace DL
open PySem PySem.Spec PyProof.Rows L2 PySem.W
end DL
set_option Elab.async false
set_option linter.all false
set_option maxRecDepth 100000
set_option maxHeartbeats 4000000
set_option autoImplicit false
namespace DL
open PySem PySem.Spec PyProof.Rows L2
/-- the keys of a set are among few ones -/
theorem few_of {L : List (Addr × List Int)} {U : List (List Int)} (nd : (L.map (·.2)).Nodup) (h : ∀ p ∈ L, p.2 ∈ U) : L.length ≤ U.length := by
  have := L2.Got.zero ([] : List (Addr × List Int))
  have key : ∀ (a b : List (List Int)), a.Nodup → (∀ x ∈ a, x ∈ b) → a.length ≤ b.length := fun a => by
    induction a with
    | nil => exact fun b _ _ => Nat.zero_le _
    | cons x a ih =>
      intro b nd h
      obtain ⟨n1, n2⟩ := List.nodup_cons.mp nd
      have hx := h x List.mem_cons_self
      have := ih (b.erase x) n2 fun y hy => (List.mem_erase_of_ne (fun e => n1 (by rw [← e]; exact hy))).mpr (h y (List.mem_cons_of_mem _ hy))
      rw [List.length_erase_of_mem hx] at this
      have : 0 < b.length := List.length_pos_of_mem hx
      rw [List.length_cons]
      omega
  have := key (L.map (·.2)) U nd fun x hx => by
    obtain ⟨p, hp, rfl⟩ := List.mem_map.mp hx
    exact h p hp
  rwa [List.length_map] at this
/-- the state of the loop: the set at S has the keys met so far -/
structure SetSt (P : Program) (w : World) (ks : List (Addr × List Int)) (i : Nat) (h : Heap) (S : Addr) (L : List (Addr × List Int)) : Prop where
  tr : ∃ es ep t, SetTR P w h S L es ep t
  got : Got ks i L
section
variable {P : Program} {w : World} {A : Around} {E : Value → Shared → Prop}
theorem SetSt.step {h h' : Heap} {S : Addr} {ks L : List (Addr × List Int)} {i : Nat} (J : SetSt P w ks i h S L) (hS : ∀ o, h.get? S = some o → h'.get? S = some o) (hk : ∀ p ∈ ks, IsT P w h' p.2 p.1) : SetSt P w ks i h' S L := by
  obtain ⟨es, ep, t, R⟩ := J.tr
  exact ⟨⟨es, ep, t, R.keep hS fun p hp => hk p (List.mem_of_mem_take (J.got.sub p hp))⟩, J.got⟩
/-- one more item -/
theorem SetSt.add {s : Shared} {S : Addr} {ks L : List (Addr × List Int)} {i : Nat} {p : Addr × List Int} {U : List (List Int)} (J : SetSt P w ks i s.heap S L) (hp : ks[i]? = some p) (hx : IsT P w s.heap p.2 p.1) (hU : ∀ q ∈ ks, q.2 ∈ U) (hf : U.length < 63) (hu : A.units < cLine) {Q : Bool → Shared → Prop}
    (hQ : ∀ b h' L', Heap.SameBut S s.heap h' → SetSt P w ks (i + 1) h' S L' → Q b { s with heap := h', toks := s.toks + (p.2.length + 1) }) : wpAny (model P w) A (holding [Value.ref p.1] (setAdd S (.ref p.1))) Q E s := by
  obtain ⟨es, ep, t, R⟩ := J.tr
  have len : L.length ≤ U.length := few_of R.nd fun q hq => hU q (List.mem_of_mem_take (J.got.sub q hq))
  refine wpAny_holding ?_
  unfold setAdd
  refine wpAny_holding (wpAny_bind (wpAny_pyHash_tuple hu hx ?_))
  refine add_at (s := { s with toks := s.toks + (p.2.length + 1) }) R hx hu (by omega) fun b h' L' es' ep' t' sb R' c1 c2 => ?_
  refine hQ b h' L' sb ⟨⟨es', ep', t', R'⟩, ?_⟩
  by_cases c : p.2 ∈ L.map (·.2)
  · rw [c1 c]; exact J.got.same hp c
  · exact J.got.more hp (c2 c)
end
end DL
set_option Elab.async false
set_option linter.all false
set_option maxRecDepth 100000
set_option maxHeartbeats 4000000
set_option autoImplicit false
namespace DL
open PySem PySem.Spec PyProof.Rows L2 PySem.W
end DL
set_option Elab.async false
set_option linter.all false
set_option maxRecDepth 100000
set_option maxHeartbeats 4000000
set_option autoImplicit false
namespace DL
open PySem PySem.Spec PyProof.Rows L2 PySem.W
end DL
set_option Elab.async false
set_option linter.all false
set_option maxRecDepth 100000
set_option maxHeartbeats 4000000
set_option autoImplicit false
namespace DL
open PySem PySem.Spec PyProof.Rows L2 PySem.W
end DL
set_option Elab.async false
set_option linter.all false
set_option maxRecDepth 100000
set_option maxHeartbeats 4000000
set_option autoImplicit false
namespace DL
open PySem PySem.Spec PyProof.Rows L2 PySem.W
end DL
set_option Elab.async false
set_option linter.all false
set_option maxRecDepth 100000
set_option maxHeartbeats 4000000
set_option autoImplicit false
namespace DL
open PySem PySem.Spec PyProof.Rows L2 PySem.W
end DL
set_option Elab.async false
set_option linter.all false
set_option maxRecDepth 100000
set_option maxHeartbeats 4000000
set_option autoImplicit false
namespace DL
open PySem PySem.Spec PyProof.Rows L2 PySem.W
def minusB (B : Hp) (d : Addr) : Hp := fun a => if a = d then none else B a
theorem minus_ne {B : Hp} {d a : Addr} (h : a ≠ d) : minusB B d a = B a := if_neg h
theorem minus_at {B : Hp} {d : Addr} : minusB B d d = none := if_pos rfl
end DL
set_option Elab.async false
set_option linter.all false
set_option maxRecDepth 100000
set_option maxHeartbeats 4000000
set_option autoImplicit false
namespace DL
open PySem PySem.Spec PyProof.Rows L2 PySem.W
end DL
set_option Elab.async false
set_option linter.all false
set_option maxRecDepth 100000
set_option maxHeartbeats 4000000
set_option autoImplicit false
namespace DL
open PySem PySem.Spec PyProof.Rows L2 PySem.W
def valN (us : List (NestedKey × Addr × V)) (k : NestedKey) : Option V := (us.find? fun x => decide (x.1 = k)).map (·.2.2)
def putN (us : List (NestedKey × Addr × V)) (k : NestedKey) (b : Addr) (y : V) : List (NestedKey × Addr × V) :=
  if (us.find? fun x => decide (x.1 = k)).isSome then us.map (fun x => if x.1 = k then (x.1, x.2.1, y) else x) else us ++ [(k, b, y)]
theorem NV.find {us : List (NestedKey × Addr × V)} {zs : List (NestedKey × Addr × Value)} (r : NV us zs) (k : NestedKey) : (us.find? fun x => decide (x.1 = k)).isSome = (atKey zs k).isSome := by
  unfold atKey
  rw [Option.isSome_map]
  induction r with
  | nil => rfl
  | @cons p q ps qs h t ih =>
    by_cases e : p.1 = k
    · rw [List.find?_cons_of_pos (by simp [e]), List.find?_cons_of_pos (by simp [← h.1, e])]; rfl
    · rw [List.find?_cons_of_neg (by simp [e]), List.find?_cons_of_neg (by simp [← h.1, e])]
      exact ih
theorem NV.val {us : List (NestedKey × Addr × V)} {zs : List (NestedKey × Addr × Value)} (r : NV us zs) (k : NestedKey) : RelO (valN us k) ((atKey zs k).map (·.2)) := by
  unfold valN atKey
  induction r with
  | nil => exact True.intro
  | @cons p q ps qs h t ih =>
    by_cases e : p.1 = k
    · rw [List.find?_cons_of_pos (by simp [e]), List.find?_cons_of_pos (by simp [← h.1, e])]; exact h.2.2
    · rw [List.find?_cons_of_neg (by simp [e]), List.find?_cons_of_neg (by simp [← h.1, e])]
      exact ih
theorem NV.repl {us : List (NestedKey × Addr × V)} {zs : List (NestedKey × Addr × Value)} (r : NV us zs) (k : NestedKey) {y : V} {u : Value} (ry : RelV y u) : NV (us.map fun x => if x.1 = k then (x.1, x.2.1, y) else x) (zs.map (putAt k u)) := by
  induction r with
  | nil => exact .nil
  | @cons p q ps qs h t ih =>
    rw [List.map_cons, List.map_cons]
    refine .cons ?_ ih
    unfold putAt
    by_cases e : p.1 = k
    · rw [if_pos e, if_pos (h.1.symm.trans e)]; exact ⟨h.1, h.2.1, ry⟩
    · rw [if_neg e, if_neg (fun z => e (h.1.trans z))]; exact h
theorem NV.put {us : List (NestedKey × Addr × V)} {zs : List (NestedKey × Addr × Value)} (r : NV us zs) (k : NestedKey) (b : Addr) {y : V} {u : Value} (ry : RelV y u) : NV (putN us k b y) (storedH zs k b u) := by
  unfold putN storedH
  rw [r.find k]
  by_cases q : (atKey zs k).isSome = true
  · rw [if_pos q, if_pos q]; exact r.repl k ry
  · rw [if_neg q, if_neg q]; exact Paired.snoc r ⟨rfl, rfl, ry⟩
end DL
set_option Elab.async false
set_option linter.all false
set_option maxRecDepth 100000
set_option maxHeartbeats 4000000
set_option autoImplicit false
namespace DL
open PySem PySem.Spec PyProof.Rows L2 PySem.W
def valNP (kvs : List (NestedKey × PyData)) (k : NestedKey) : Option PyData := (kvs.find? fun x => decide (x.1 = k)).map (·.2)
def putNP (kvs : List (NestedKey × PyData)) (k : NestedKey) (x : PyData) : List (NestedKey × PyData) :=
  if (kvs.find? fun z => decide (z.1 = k)).isSome then kvs.map (fun z => if z.1 = k then (z.1, x) else z) else kvs ++ [(k, x)]
theorem NOk.find {B : Hp} {us : List (NestedKey × Addr × V)} {kvs : List (NestedKey × PyData)} (r : NOk B us kvs) (k : NestedKey) : (us.find? fun x => decide (x.1 = k)).isSome = (kvs.find? fun x => decide (x.1 = k)).isSome := by
  induction r with
  | nil => rfl
  | @cons p q ps qs h t ih =>
    by_cases e : p.1 = k
    · rw [List.find?_cons_of_pos (by simp [e]), List.find?_cons_of_pos (by simp [← h.1, e])]; rfl
    · rw [List.find?_cons_of_neg (by simp [e]), List.find?_cons_of_neg (by simp [← h.1, e])]
      exact ih
theorem NOk.val {B : Hp} {us : List (NestedKey × Addr × V)} {kvs : List (NestedKey × PyData)} (r : NOk B us kvs) (k : NestedKey) : (∃ v x, valN us k = some v ∧ valNP kvs k = some x ∧ Dq B v x) ∨ (valN us k = none ∧ valNP kvs k = none) := by
  unfold valN valNP
  induction r with
  | nil => exact .inr ⟨rfl, rfl⟩
  | @cons p q ps qs h t ih =>
    by_cases e : p.1 = k
    · rw [List.find?_cons_of_pos (by simp [e]), List.find?_cons_of_pos (by simp [← h.1, e])]
      exact .inl ⟨_, _, rfl, rfl, h.2.2⟩
    · rw [List.find?_cons_of_neg (by simp [e]), List.find?_cons_of_neg (by simp [← h.1, e])]
      exact ih
theorem NOk.repl {B : Hp} {us : List (NestedKey × Addr × V)} {kvs : List (NestedKey × PyData)} (r : NOk B us kvs) (k : NestedKey) {y : V} {x : PyData} (ry : Dq B y x) : NOk B (us.map fun z => if z.1 = k then (z.1, z.2.1, y) else z) (kvs.map fun z => if z.1 = k then (z.1, x) else z) := by
  induction r with
  | nil => exact .nil
  | @cons p q ps qs h t ih =>
    rw [List.map_cons, List.map_cons]
    refine .cons ?_ ih
    by_cases e : p.1 = k
    · rw [if_pos e, if_pos (h.1.symm.trans e)]; exact ⟨h.1, h.2.1, ry⟩
    · rw [if_neg e, if_neg (fun z => e (h.1.trans z))]; exact h
theorem NOk.put {B : Hp} {us : List (NestedKey × Addr × V)} {kvs : List (NestedKey × PyData)} (r : NOk B us kvs) {k : NestedKey} {b : Addr} {y : V} {x : PyData} (hb : Dq B (.ref b) k.data) (ry : Dq B y x) : NOk B (putN us k b y) (putNP kvs k x) := by
  unfold putN putNP
  rw [r.find k]
  by_cases q : (kvs.find? fun z => decide (z.1 = k)).isSome = true
  · rw [if_pos q, if_pos q]; exact r.repl k ry
  · rw [if_neg q, if_neg q]; exact Paired.snoc r ⟨rfl, hb, ry⟩
theorem NOk.mono {B B' : Hp} {us : List (NestedKey × Addr × V)} {kvs : List (NestedKey × PyData)} (e : Same B B') (r : NOk B us kvs) : NOk B' us kvs := paired_imp (fun _ _ z => ⟨z.1, dq_mono e z.2.1, dq_mono e z.2.2⟩) r
end DL
set_option Elab.async false
set_option linter.all false
set_option maxRecDepth 100000
set_option maxHeartbeats 4000000
set_option autoImplicit false
namespace DL
open PySem PySem.Spec PyProof.Rows L2 PySem.W
end DL
set_option Elab.async false
set_option linter.all false
set_option maxRecDepth 100000
set_option maxHeartbeats 4000000
set_option autoImplicit false
namespace DL
open PySem PySem.Spec PyProof.Rows L2 PySem.W
end DL
set_option Elab.async false
set_option linter.all false
set_option maxRecDepth 100000
set_option maxHeartbeats 4000000
set_option autoImplicit false
namespace DL
open PySem PySem.Spec PyProof.Rows L2 PySem.W L2.DX
end DL
set_option Elab.async false
set_option linter.all false
set_option maxRecDepth 100000
set_option maxHeartbeats 4000000
set_option autoImplicit false
namespace DL
open PySem PySem.Spec PyProof.Rows L2 PySem.W
end DL
set_option Elab.async false
set_option linter.all false
set_option maxRecDepth 100000
set_option maxHeartbeats 4000000
set_option autoImplicit false
namespace DL
open PySem PySem.Spec PyProof.Rows L2 PySem.W
end DL
set_option Elab.async false
set_option linter.all false
set_option maxRecDepth 100000
set_option maxHeartbeats 4000000
set_option autoImplicit false
namespace DL
open PySem PySem.Spec PyProof.Rows L2 PySem.W
end DL
set_option Elab.async false
set_option linter.all false
set_option maxRecDepth 100000
set_option maxHeartbeats 4000000
set_option autoImplicit false
namespace DL
open PySem PySem.Spec PyProof.Rows L2 PySem.W
end DL
set_option Elab.async false
set_option linter.all false
set_option maxRecDepth 100000
set_option maxHeartbeats 4000000
set_option autoImplicit false
namespace DL
open PySem PySem.Spec PyProof.Rows L2 PySem.W
end DL
set_option Elab.async false
set_option linter.all false
set_option maxRecDepth 100000
set_option maxHeartbeats 4000000
set_option autoImplicit false
namespace DL
open PySem PySem.Spec PyProof.Rows L2 PySem.W
end DL
set_option Elab.async false
set_option linter.all false
set_option maxRecDepth 100000
set_option maxHeartbeats 4000000
set_option autoImplicit false
namespace DL
open PySem PySem.Spec PyProof.Rows L2 PySem.W
mutual
def Free (ds : List PyData) : PyData → Prop
  | .list es => es ≠ ds ∧ FreeAll ds es
  | .tuple es => FreeAll ds es
  | .dict _ => False
  | _ => True
def FreeAll (ds : List PyData) : List PyData → Prop
  | [] => True
  | e :: es => Free ds e ∧ FreeAll ds es
end
mutual
theorem dq_det {B : Hp} : ∀ {v : V} {d d' : PyData}, Dq B v d → Dq B v d' → d = d'
  | _, _, _, .non, h => by cases h; rfl
  | _, _, _, .bl b, h => by cases h; rfl
  | _, _, _, .int i, h => by cases h; rfl
  | _, _, _, .str x, h => by cases h; rfl
  | _, _, _, .lst h1 h2, h => by
    cases h with
    | lst h3 h4 =>
      rw [h1] at h3
      cases h3
      rw [dqall_det h2 h4]
    | tup h3 h4 => rw [h1] at h3; cases h3
  | _, _, _, .tup h1 h2, h => by
    cases h with
    | lst h3 h4 => rw [h1] at h3; cases h3
    | tup h3 h4 =>
      rw [h1] at h3
      cases h3
      rw [dqall_det h2 h4]
theorem dqall_det {B : Hp} : ∀ {vs : List V} {ds ds' : List PyData}, DqAll B vs ds → DqAll B vs ds' → ds = ds'
  | _, _, _, .nil, h => by cases h; rfl
  | _, _, _, .cons h1 h2, h => by
    cases h with
    | cons h3 h4 => rw [dq_det h1 h3, dqall_det h2 h4]
end
mutual
theorem dq_free {B : Hp} {p : Addr} {xs : List V} {ds : List PyData} (hp : B p = some (.lst xs)) (hd : DqAll B xs ds) : ∀ {v : V} {x : PyData}, Dq B v x → Free ds x → Dq (minusB B p) v x
  | _, _, .non, _ => .non
  | _, _, .bl b, _ => .bl b
  | _, _, .int i, _ => .int i
  | _, _, .str x, _ => .str x
  | _, _, .lst (a := a) h1 h2, f => by
    unfold Free at f
    refine .lst ?_ (dqall_free hp hd h2 f.2)
    rw [minus_ne]
    · exact h1
    · intro e
      subst e
      rw [hp] at h1
      cases h1
      exact f.1 (dqall_det h2 hd)
  | _, _, .tup (a := a) h1 h2, f => by
    unfold Free at f
    refine .tup ?_ (dqall_free hp hd h2 f)
    rw [minus_ne]
    · exact h1
    · intro e
      subst e
      rw [hp] at h1
      cases h1
theorem dqall_free {B : Hp} {p : Addr} {xs : List V} {ds : List PyData} (hp : B p = some (.lst xs)) (hd : DqAll B xs ds) : ∀ {vs : List V} {es : List PyData}, DqAll B vs es → FreeAll ds es → DqAll (minusB B p) vs es
  | _, _, .nil, _ => .nil
  | _, _, .cons h1 h2, f => by
    unfold FreeAll at f
    exact .cons (dq_free hp hd h1 f.1) (dqall_free hp hd h2 f.2)
end
open Classical in
noncomputable def clnR (ds : List PyData) : Option R → Option R
  | some (.d x) => if Free ds x then some (.d x) else none
  | some (.o m) => some (.o m)
  | _ => none
open Classical in
noncomputable def clnC (ds : List PyData) : Ct → Ct
  | .lst es => if FreeAll ds es then .lst es else .dead
  | _ => .dead
noncomputable def loanFin (i j : Nat) (ds : List PyData) (g : G) : G := ⟨(g.sl.map (clnR ds)).set i (some (.o j)), (g.ce.map (clnC ds)).set j (.lst ds)⟩
open Classical in
noncomputable def loanEnd (i j : Nat) (ds : List PyData) : Out Fl → Out Fl
  | .ok .nx g => if g.sl[i]? = some (some (.f j ds)) ∧ FreeAll ds ds then .ok .nx (loanFin i j ds g) else .no
  | .ok (.rt (.d x)) g => if g.sl[i]? = some (some (.f j ds)) ∧ FreeAll ds ds ∧ Free ds x then .ok (.rt (.d x)) (loanFin i j ds g) else .no
  | _ => .no
noncomputable def loanGo (i : Nat) (S : FS) (g : G) : Option (Option R) → Out Fl
  | some (some (.o j)) => match g.ce[j]? with
    | some (.lst ds) => loanEnd i j ds (S ⟨g.sl.set i (some (.f j ds)), g.ce.set j .dead⟩)
    | _ => .no
  | some (some (.d .none)) => S g
  | _ => .no
noncomputable def sLoanS (i : Nat) (S : FS) : FS := fun g => loanGo i S g g.sl[i]?
theorem sLoanS_ap (i : Nat) (S : FS) (g : G) : sLoanS i S g = loanGo i S g g.sl[i]? := id rfl
theorem loanGo_n (i : Nat) (S : FS) (g : G) : loanGo i S g (some (some (.d .none))) = S g := id rfl
theorem loanGo_o {i j : Nat} {S : FS} {g : G} {ds : List PyData} (h : g.ce[j]? = some (.lst ds)) : loanGo i S g (some (some (.o j))) = loanEnd i j ds (S ⟨g.sl.set i (some (.f j ds)), g.ce.set j .dead⟩) := by
  simp only [loanGo, h]
theorem loanEnd_nx {i j : Nat} {ds : List PyData} {g : G} (h : g.sl[i]? = some (some (.f j ds))) (hf : FreeAll ds ds) : loanEnd i j ds (.ok .nx g) = .ok .nx (loanFin i j ds g) := if_pos ⟨h, hf⟩
section
variable {K : KR} {F : Fm} {g : G} {tm : List (V × R)} {s s2 : L2.St} {H H2 B B2 : Hp} {al al2 : List Addr}
theorem minus_some {B : Hp} {p a : Addr} {o : HO} (h : minusB B p a = some o) : a ≠ p ∧ B a = some o := by
  by_cases e : a = p
  · subst e; rw [minus_at] at h; cases h
  · rw [minus_ne e] at h; exact ⟨e, h⟩
/-- the frame of the loan -/
theorem Stt.loanIn (S : Stt K F g tm s H B al) {i j : Nat} {p : Addr} {ds : List PyData} {xs : List V} (hi : g.sl[i]? = some (some (.o j))) (ha : al[j]? = some p) (hc : g.ce[j]? = some (.lst ds)) (hx : H p = some (.lst xs)) (hd : DqAll B xs ds) :
    Stt K ⟨upd B p (.lst xs), F.O, al⟩ ⟨g.sl.set i (some (.f j ds)), g.ce.set j .dead⟩ [] s H (upd B p (.lst xs)) al := by
  have bp : B p = none := S.nb j p _ ha hc (fun z => nomatch z)
  have eB : Same B (upd B p (.lst xs)) := same_new bp
  have rv : RvOk K (upd B p (.lst xs)) al (.ref p) (.f j ds) := ⟨p, xs, ha, rfl, upd_same, dqall_mono eB hd⟩
  have other : ∀ {k : Nat} {a : Addr}, al[k]? = some a → k ≠ j → a ≠ p := fun {k a} h1 h2 z => h2 ((List.getElem?_inj (List.getElem?_eq_some_iff.mp h1).1 S.nd).mp (by rw [h1, ha, z]))
  obtain ⟨v, hv, rvo⟩ := S.sl i _ hi
  obtain ⟨p', hp', ev⟩ := rvo
  rw [ha] at hp'
  cases hp'
  refine { rb := (S.rb.trans S.fb).trans eB, ro := S.ro, rp := (by obtain ⟨t, ht⟩ := S.pre; obtain ⟨u, hu⟩ := S.rp; exact ⟨u ++ t, by rw [ht, hu, List.append_assoc]⟩), ot := S.ot, fb := Same.refl _, pre := ⟨[], (List.append_nil _).symm⟩, nd := S.nd, lv := S.lv, bh := fun a u q => ?_, fo := fun a u e => ?_, len := by rw [List.length_set]; exact S.len, nb := fun k a c h1 h2 h3 => ?_, ce := fun k a c h1 h2 => ?_, sl := fun k r e => ?_, tm := (fun q hq => nomatch hq), sln := by rw [List.length_set]; exact S.sln }
  · by_cases z : a = p
    · subst z; rw [upd_same] at q; rw [hx]; exact q
    · rw [upd_ne z] at q; exact S.bh _ _ q
  · obtain ⟨h1, h2, h3⟩ := S.fo a u e
    refine ⟨h1, ?_, h3⟩
    rw [upd_ne (fun z => h3 (by rw [z]; exact List.mem_of_getElem? ha))]
    exact h2
  · by_cases z : k = j
    · subst z
      have h2 : (g.ce.set k .dead)[k]? = some c := h2
      rw [List.getElem?_set_self (List.getElem?_eq_some_iff.mp hc).1] at h2
      cases h2
      exact absurd rfl h3
    · have h2 : (g.ce.set j .dead)[k]? = some c := h2
      rw [List.getElem?_set_ne (fun q => z q.symm)] at h2
      rw [upd_ne (other h1 z)]
      exact S.nb k a c h1 h2 h3
  · by_cases z : k = j
    · subst z
      have h2 : (g.ce.set k .dead)[k]? = some c := h2
      rw [List.getElem?_set_self (List.getElem?_eq_some_iff.mp hc).1] at h2
      cases h2
      rw [ha] at h1
      cases h1
      exact ⟨_, hx, fun us z => nomatch z⟩
    · have h2 : (g.ce.set j .dead)[k]? = some c := h2
      rw [List.getElem?_set_ne (fun q => z q.symm)] at h2
      exact ct_mono0 eB (fun u q => q) (S.ce k a c h1 h2)
  · by_cases z : k = i
    · subst z
      have e : (g.sl.set k (some (.f j ds)))[k]? = some (some r) := e
      rw [List.getElem?_set_self (List.getElem?_eq_some_iff.mp hi).1] at e
      cases e
      exact ⟨v, hv, by rw [ev]; exact rv⟩
    · have e : (g.sl.set i (some (.f j ds)))[k]? = some (some r) := e
      rw [List.getElem?_set_ne (fun q => z q.symm)] at e
      obtain ⟨v2, e1, e2⟩ := S.sl k r e
      exact ⟨v2, e1, rv_mono0 eB e2⟩
open Classical in
theorem Stt.loanOut (S : Stt K F g [] s H B al) {i j : Nat} {p : Addr} {ds : List PyData} {xs : List V} {g2 : G} (ha : al[j]? = some p) (bp : B p = none) (S2 : Stt K ⟨upd B p (.lst xs), F.O, al⟩ g2 tm s2 H2 B2 al2) (hi : g2.sl[i]? = some (some (.f j ds))) (hf : FreeAll ds ds) :
    Stt K F (loanFin i j ds g2) [] s2 H2 (minusB B2 p) al2 ∧ ∀ v x, Dq B2 v x → Free ds x → Dq (minusB B2 p) v x := by
  obtain ⟨v0, hv0, p', xs', hp', ev0, hx, hd⟩ := S2.sl i _ hi
  obtain ⟨tt, htt⟩ := S2.pre
  have hpp : p = p' := by
    have z : al2[j]? = some p := by
      rw [htt]
      show (al ++ tt)[j]? = some p
      rw [List.getElem?_append_left (List.getElem?_eq_some_iff.mp ha).1]
      exact ha
    rw [hp'] at z
    exact (Option.some.inj z).symm
  subst hpp
  have eM : Same B (minusB B2 p) := fun a u q => by
    rw [minus_ne (fun z => by rw [z, bp] at q; cases q)]
    exact S2.fb _ _ (by show (upd B _ _) a = _; rw [upd_ne (fun z => by rw [z, bp] at q; cases q)]; exact q)
  have dq : ∀ v x, Dq B2 v x → Free ds x → Dq (minusB B2 p) v x := fun v x h f => dq_free hx hd h f
  have lj : j < g2.ce.length := by rw [← S2.len]; exact (List.getElem?_eq_some_iff.mp hp').1
  refine ⟨{ rb := S.rb, ro := S.ro, rp := S.rp, ot := S.ot, fb := S.fb.trans eM, bh := fun a u q => S2.bh _ _ (minus_some q).2, fo := fun a u e => ?_, pre := (by obtain ⟨t, ht⟩ := S.pre; exact ⟨t ++ tt, by rw [htt, ← List.append_assoc, ← ht]⟩), len := by show _ = ((g2.ce.map (clnC ds)).set j (.lst ds)).length; rw [List.length_set, List.length_map]; exact S2.len, nd := S2.nd, lv := S2.lv, nb := fun k a c h1 h2 h3 => ?_, ce := fun k a c h1 h2 => ?_, sl := fun k r e => ?_, tm := (fun q hq => nomatch hq), sln := by show ((g2.sl.map (clnR ds)).set i (some (.o j))).length = _; rw [List.length_set, List.length_map]; exact S2.sln }, dq⟩
  · obtain ⟨h1, h2, h3⟩ := S2.fo a u e
    refine ⟨h1, ?_, h3⟩
    by_cases z : a = p
    · rw [z]; exact minus_at
    · rw [minus_ne z]; exact h2
  · by_cases z : k = j
    · subst z
      rw [hp'] at h1
      cases h1
      exact minus_at
    · have h2 : ((g2.ce.map (clnC ds)).set j (.lst ds))[k]? = some c := h2
      rw [List.getElem?_set_ne (fun q => z q.symm), List.getElem?_map] at h2
      obtain ⟨c0, hc0, e0⟩ := Option.map_eq_some_iff.mp h2
      have nd0 : c0 ≠ .dead := fun q => by subst q; exact h3 e0.symm
      by_cases zz : a = p
      · rw [zz]; exact minus_at
      · rw [minus_ne zz]
        exact S2.nb k a c0 h1 hc0 nd0
  · by_cases z : k = j
    · subst z
      rw [hp'] at h1
      cases h1
      have h2 : ((g2.ce.map (clnC ds)).set k (.lst ds))[k]? = some c := h2
      rw [List.getElem?_set_self (by rw [List.length_map]; exact lj)] at h2
      cases h2
      exact ⟨xs', S2.bh _ _ hx, dqall_free hx hd hd hf⟩
    · have h2 : ((g2.ce.map (clnC ds)).set j (.lst ds))[k]? = some c := h2
      rw [List.getElem?_set_ne (fun q => z q.symm), List.getElem?_map] at h2
      obtain ⟨c0, hc0, e0⟩ := Option.map_eq_some_iff.mp h2
      have k0 := S2.ce k a c0 h1 hc0
      have dead : CtOk K (minusB B2 p) al2 H2 a .dead := ct_box k0
      cases c0 with
      | lst es =>
        have e0 : (if FreeAll ds es then Ct.lst es else .dead) = c := e0
        by_cases q : FreeAll ds es
        · rw [if_pos q] at e0
          subst e0
          obtain ⟨ys, y1, y2⟩ := k0
          exact ⟨ys, y1, dqall_free hx hd y2 q⟩
        · rw [if_neg q] at e0
          subst e0
          exact dead
      | _ => cases e0; exact dead
  · by_cases z : k = i
    · subst z
      have e : ((g2.sl.map (clnR ds)).set k (some (.o j)))[k]? = some (some r) := e
      rw [List.getElem?_set_self (by rw [List.length_map]; exact (List.getElem?_eq_some_iff.mp hi).1)] at e
      cases e
      obtain ⟨v, hv, q, ys, hq, ev, _⟩ := S2.sl k _ hi
      exact ⟨v, hv, q, hq, ev⟩
    · have e : ((g2.sl.map (clnR ds)).set i (some (.o j)))[k]? = some (some r) := e
      rw [List.getElem?_set_ne (fun q => z q.symm), List.getElem?_map] at e
      obtain ⟨r0, hr0, e0⟩ := Option.map_eq_some_iff.mp e
      cases r0 with
      | none => cases e0
      | some r0 =>
        obtain ⟨v, hv, rv⟩ := S2.sl k r0 hr0
        cases r0 with
        | d x =>
          have e0 : (if Free ds x then some (R.d x) else none) = some r := e0
          by_cases q : Free ds x
          · rw [if_pos q] at e0
            cases e0
            exact ⟨v, hv, dq v x rv q⟩
          · rw [if_neg q] at e0
            cases e0
        | o m => cases e0; exact ⟨v, hv, rv⟩
        | _ => cases e0
end
section
variable {ρ : Root} {X : Cx} {dx : DX} {st : Stmt} {S : FS}
theorem qs_loan (i : Nat) (h : PFS ρ X dx st S) : PFS ρ X dx st (sLoanS i S) := ps_imp h fun D s H ⟨F, g, tm, E, B, al, Sx, hk, ok⟩ => by
  have hk : (loanGo i S g g.sl[i]?).go dx (flK E) := hk
  cases hi : g.sl[i]? with
  | none => rw [hi] at hk; exact hk.elim
  | some o => cases o with
    | none => rw [hi] at hk; exact hk.elim
    | some r =>
      rw [hi] at hk
      cases r with
      | d x =>
        cases x with
        | none => exact ⟨F, g, tm, E, B, al, Sx, hk, ok⟩
        | _ => exact hk.elim
      | o j =>
        cases hc : g.ce[j]? with
        | none => simp only [loanGo, hc] at hk; exact hk.elim
        | some ct =>
          cases ct with
          | lst ds =>
            rw [loanGo_o hc] at hk
            have htm := ok.tm0
            subst htm
            obtain ⟨v, hv, p, ha, ev⟩ := Sx.sl i _ hi
            obtain ⟨xs, hx, hd⟩ := Sx.ce j p _ ha hc
            have bp : B p = none := Sx.nb j p _ ha hc (fun z => nomatch z)
            have S1 := Sx.loanIn hi ha hc hx hd
            obtain ⟨g1, eg1⟩ : ∃ g1 : G, (⟨g.sl.set i (some (.f j ds)), g.ce.set j .dead⟩ : G) = g1 := ⟨_, rfl⟩
            rw [eg1] at hk S1
            refine ⟨_, g1, [], { nx := fun g2 => S g1 = .ok .nx g2, rt := fun r g2 => S g1 = .ok (.rt r) g2 }, _, al, S1, ?_, ?_⟩
            · show (S g1).go dx _
              cases hS : S g1 with
              | no => rw [hS] at hk; exact hk.elim
              | ex n g2 => rw [hS] at hk; exact hk.elim
              | ok fl g2 =>
                cases fl with
                | nx => exact rfl
                | rt r => exact rfl
                | bk => rw [hS] at hk; exact hk.elim
                | ct => rw [hS] at hk; exact hk.elim
            · refine ⟨fun s' H' g' B' al' h' S' => ?_, fun s' v H' r g' B' al' h' S' => ?_, fun s' H' g' B' al' h' S' => h'.elim, fun s' H' g' B' al' h' S' => h'.elim, rfl⟩
              · have h' : S g1 = .ok .nx g' := h'
                rw [h'] at hk
                unfold loanEnd at hk
                simp only at hk
                split at hk
                · rename_i hcond
                  exact ok.nx s' H' _ _ al' hk (Sx.loanOut ha bp S' hcond.1 hcond.2).1
                · exact hk.elim
              · have h' : S g1 = .ok (.rt r) g' := h'
                rw [h'] at hk
                cases r with
                | d x =>
                  unfold loanEnd at hk
                  simp only at hk
                  split at hk
                  · rename_i hcond
                    obtain ⟨S4, dq⟩ := Sx.loanOut ha bp S' hcond.1 hcond.2.1
                    exact ok.rt s' v H' (.d x) _ _ al' hk (S4.push (dq v x (S'.top rfl) hcond.2.2))
                  · exact hk.elim
                | _ => exact hk.elim
          | _ => simp only [loanGo, hc] at hk; exact hk.elim
      | _ => exact hk.elim
end
def datK (r : R) (g : G) : Out R := match r with
  | .f j ds => .ok (.d (.list ds)) g
  | r => .ok r g
def fDat (f : FE) : FE := fun g => (f g).bind datK
theorem fDat_ap (f : FE) (g : G) : fDat f g = (f g).bind datK := id rfl
theorem datK_f (j : Nat) (ds : List PyData) (g : G) : datK (.f j ds) g = .ok (.d (.list ds)) g := id rfl
theorem datK_d (x : PyData) (g : G) : datK (.d x) g = .ok (.d x) g := id rfl
section
variable {ρ : Root} {X : Cx} {dx : DX} {e : Expr} {f : FE}
theorem q_dat (h : PF ρ X dx e f) : PF ρ X dx e (fDat f) := pe_imp h fun s H Q ⟨F, g, tm, k, B, al, S, hk, q⟩ => by
  refine ⟨F, g, tm, _, B, al, S, go_bind.mp hk, fun v H1 r g1 B1 al1 h1 S1 => ?_⟩
  have h1 : (datK r g1).go dx k := h1
  cases r with
  | f j ds =>
    obtain ⟨p, xs, ha, rfl, hp, hd⟩ : RvOk ⟨X.K, ρ⟩ B1 al1 v (.f j ds) := S1.top rfl
    exact q _ H1 (.d (.list ds)) g1 B1 al1 h1 ((S1.temps fun t ht => List.mem_cons_of_mem _ ht).push (Dq.lst hp hd))
  | d x => exact q _ H1 _ g1 B1 al1 h1 S1
  | s x => exact q _ H1 _ g1 B1 al1 h1 S1
  | x x => exact q _ H1 _ g1 B1 al1 h1 S1
  | m x => exact q _ H1 _ g1 B1 al1 h1 S1
  | l x => exact q _ H1 _ g1 B1 al1 h1 S1
  | o x => exact q _ H1 _ g1 B1 al1 h1 S1
end
def slOK (g : G) (lo hi : Option Int) : Option (Bool × List PyData) → Out R
  | some (false, ds) => newO (.lst (cut ds lo hi)) g
  | _ => .no
def fSlO (f : FE) (fl fh : FO) : FE := fun g => (f g).bind fun r g1 => (fl g1).bind fun lo g2 => (fh g2).bind fun hi g3 => slOK g3 lo hi (seqOf g3 r)
theorem fSlO_ap (f : FE) (fl fh : FO) (g : G) : fSlO f fl fh g = (f g).bind fun r g1 => (fl g1).bind fun lo g2 => (fh g2).bind fun hi g3 => slOK g3 lo hi (seqOf g3 r) := id rfl
theorem slOK_l (g : G) (lo hi : Option Int) (ds : List PyData) : slOK g lo hi (some (false, ds)) = newO (.lst (cut ds lo hi)) g := id rfl
def dSlO (de : DE) (dl dh : DO) : DE := fun g k => de g fun r g1 => dl g1 fun lo g2 => dh g2 fun hi g3 => ∃ ds, seqOf g3 r = some (false, ds) ∧ k (.o g3.ce.length) { g3 with ce := g3.ce ++ [.lst (cut ds lo hi)] }
section
variable {ρ : Root} {X : Cx} {dx : DX} {e : Expr} {f : FE} {pos : Pos}
theorem pd_slO {de : DE} {dl dh : DO} {lo hi : Option Expr} {p2 : Pos} (he : PD ρ X e de) (hl : PDO ρ X lo dl) (hh : PDO ρ X hi dh) : PD ρ X (.Subscript e (.Slice lo hi none p2) pos) (dSlO de dl dh) :=
  pe_imp (pe_slice (SlR.or sl_list sl_tupA) he hl hh) fun s H Q ⟨F, g, tm, k, B, al, S, hk, q⟩ => ⟨F, g, tm, _, B, al, S, hk, fun v H1 r g1 B1 al1 hk1 S1 => ⟨F, g1, (v, r) :: tm, _, B1, al1, S1, hk1, fun l H2 g2 B2 al2 hk2 S2 => ⟨F, g2, (v, r) :: tm, _, B2, al2, S2, hk2, fun h H3 g3 B3 al3 ⟨ds, e, hk3⟩ S3 => by
    obtain ⟨a, xs, rfl, h1, h2⟩ := S3.seq (S3.top rfl) e
    have hc := dqall_cut h2 l h
    have S4 := S3.temps (tm' := tm) fun p hp => List.mem_cons_of_mem _ hp
    have q' : ∀ v H' r g' B' al', k r g' → Stt ⟨X.K, ρ⟩ F g' tm s H' B' al' → RvOk ⟨X.K, ρ⟩ B' al' v r → Q v H' := fun v H' r g' B' al' hr S' rv => q v H' r g' B' al' hr (S'.push rv)
    exact .inl ⟨a, xs, rfl, h1, fun p hp => new_o S4 hp hc hk3 q'⟩⟩⟩⟩
theorem q_slO {fl fh : FO} {lo hi : Option Expr} {p2 : Pos} (he : PF ρ X dx e f) (hl : PFO ρ X dx lo fl) (hh : PFO ρ X dx hi fh) : PF ρ X dx (.Subscript e (.Slice lo hi none p2) pos) (fSlO f fl fh) := pd_mono (pd_slO he hl hh) fun g k h =>
  go_mono (go_bind.mp h) fun r g1 h1 => go_mono (go_bind.mp h1) fun lo g2 h2 => go_mono (go_bind.mp h2) fun hi g3 h3 => by
    cases e : seqOf g3 r with
    | none => rw [e] at h3; exact h3.elim
    | some td =>
      obtain ⟨t, ds⟩ := td
      rw [e] at h3
      cases t with
      | true => exact h3.elim
      | false => exact ⟨ds, rfl, h3⟩
end
end DL
section
open PySem PySem.Spec PyProof.Rows L2 DL
local macro_rules
  | `(tactic| simp! [$ts,*]) => `(tactic| simp only [onI_ap, opMul_ap, opAdd_ap, opEq_ap, opNe_ap, opIsN_ap, opNotN_ap, opIx_ap, opIn_ap, opNotIn_ap, fVar_ap, fC_ap, fOp_ap, fNeg_ap, fAnd_ap, fOr_ap, fNot_ap, fTst_ap, fAndT_ap, fOrT_ap, fNotT_ap, fYes_ap, fIf_ap, fChain_ap, fNil_ap, fCons_ap, fTup_ap, fLst_ap, fLstO_ap, fDict0_ap, fDict0T_ap, fNoP_ap, fPart_ap, fSl_ap, fRev_ap, fCl_ap, clLen_ap, clAbs_ap, clMax_ap, clMin_ap, clInt_ap, clList_ap, clTuple_ap, clAll_ap, clAny_ap, clSum_ap, clSorted_ap, fListO_ap, fIsi_ap, fIsi2_ap, fMt_ap, mtAppend_ap, mtInsert_ap, mtPop_ap, mtExtend_ap, mtIndex_ap, tN_ap, tNil_ap, tCons_ap, tTup_ap, tSub_ap, sNx_ap, sCt_ap, sBk_ap, sSq_ap, sEx_ap, sRt_ap, sRtN_ap, sIte_ap, sSet_ap, sP2_ap, sP3_ap, sAg_ap, sPut_ap, sNo_ap, whSt_ap, sFr_ap, fLc_ap, fLcO_ap, iSeq_ap, iRg1_ap, iRg2_ap, iEn_ap, iZ2_ap, iZ3_ap, clLz2_ap, clLz3_ap, fCall_ap, mkFn_ap, forSt_ap, bind_ok, bind_ex, bind_no, ofO_some, ofM_some, forGo_nil, List.getElem?_cons_zero, List.getElem?_cons_succ, List.set_cons_zero, List.set_cons_succ, List.length_cons, List.length_nil, List.map_cons, List.map_nil, Option.map_some, Option.map_none, List.nil_append, List.cons_append, ite_true, ite_false, if_true, if_false, Bool.and_true, Bool.true_and, Bool.and_self, Bool.false_eq_true, Nat.zero_add, Nat.add_zero, noO, isMade, dictAt, seqOf, datOf, asData, g0, newO, putC, onL, isLst, wipeG, tyOf, ctTy, List.replicate, Nat.sub_self, Nat.reduceSub, Nat.reduceAdd, reduceCtorEq, and_true, true_and, and_self, List.append_nil, List.take_zero, List.take_nil, decide_true, decide_false, Option.some.injEq, Bool.not_true, Bool.not_false, DL.keyOf, tkeyOf, dictC, seqD, List.length_map, shaped_zT, shaped_zL, shaped_pT, shaped_pL, shaped_pD, shaped_int, eqv_zT, eqv_zL, eqv_pT, eqv_pL, eqv_pD, eqv_int, asInts_map, asBools_map, asData_map, any_zD, any_psD, isNR, isN, finF, List.take_succ_cons, shR, resF, decide_eq_true_eq, List.reverse_nil, Nat.reduceLeDiff, Nat.reduceLT, Nat.reduceEqDiff, Int.reduceLT, Int.reduceLE, Int.reduceGT, Int.reduceEq, Int.reduceAdd, Int.reduceSub, Int.reduceMul, Int.reduceNeg, Int.reducePow, Int.reduceToNat, Nat.reducePow, Nat.reduceMul, ↓reduceIte, sTry_ap, tryK_ok, tryK_ex, catchK_true, catchK_false, fIsX_ap, isxK_x, isxK_n, fAttr_ap, attrK_x, sRaise1_ap, raiseK_d, sRaise0_ap, permI_nil, permI_cons, optCons_some, fPerm_ap, sPk_ap, setAll_cons, setAll_nil, opRep_ap, fTupF_ap, tupK_some, fLstL_ap, opIxL_ap, fCallL_ap, tTupA_t, tTupA_l, $ts,*])
  | `(tactic| simp! only [$ts,*]) => `(tactic| simp only [onI_ap, opMul_ap, opAdd_ap, opEq_ap, opNe_ap, opIsN_ap, opNotN_ap, opIx_ap, opIn_ap, opNotIn_ap, fVar_ap, fC_ap, fOp_ap, fNeg_ap, fAnd_ap, fOr_ap, fNot_ap, fTst_ap, fAndT_ap, fOrT_ap, fNotT_ap, fYes_ap, fIf_ap, fChain_ap, fNil_ap, fCons_ap, fTup_ap, fLst_ap, fLstO_ap, fDict0_ap, fDict0T_ap, fNoP_ap, fPart_ap, fSl_ap, fRev_ap, fCl_ap, clLen_ap, clAbs_ap, clMax_ap, clMin_ap, clInt_ap, clList_ap, clTuple_ap, clAll_ap, clAny_ap, clSum_ap, clSorted_ap, fListO_ap, fIsi_ap, fIsi2_ap, fMt_ap, mtAppend_ap, mtInsert_ap, mtPop_ap, mtExtend_ap, mtIndex_ap, tN_ap, tNil_ap, tCons_ap, tTup_ap, tSub_ap, sNx_ap, sCt_ap, sBk_ap, sSq_ap, sEx_ap, sRt_ap, sRtN_ap, sIte_ap, sSet_ap, sP2_ap, sP3_ap, sAg_ap, sPut_ap, sNo_ap, whSt_ap, sFr_ap, fLc_ap, fLcO_ap, iSeq_ap, iRg1_ap, iRg2_ap, iEn_ap, iZ2_ap, iZ3_ap, clLz2_ap, clLz3_ap, fCall_ap, mkFn_ap, forSt_ap, bind_ok, bind_ex, bind_no, ofO_some, ofM_some, forGo_nil, List.getElem?_cons_zero, List.getElem?_cons_succ, List.set_cons_zero, List.set_cons_succ, List.length_cons, List.length_nil, List.map_cons, List.map_nil, Option.map_some, Option.map_none, List.nil_append, List.cons_append, ite_true, ite_false, if_true, if_false, Bool.and_true, Bool.true_and, Bool.and_self, Bool.false_eq_true, Nat.zero_add, Nat.add_zero, noO, isMade, dictAt, seqOf, datOf, asData, g0, newO, putC, onL, isLst, wipeG, tyOf, ctTy, List.replicate, Nat.sub_self, Nat.reduceSub, Nat.reduceAdd, reduceCtorEq, and_true, true_and, and_self, List.append_nil, List.take_zero, List.take_nil, decide_true, decide_false, Option.some.injEq, Bool.not_true, Bool.not_false, DL.keyOf, tkeyOf, dictC, seqD, List.length_map, shaped_zT, shaped_zL, shaped_pT, shaped_pL, shaped_pD, shaped_int, eqv_zT, eqv_zL, eqv_pT, eqv_pL, eqv_pD, eqv_int, asInts_map, asBools_map, asData_map, any_zD, any_psD, isNR, isN, finF, List.take_succ_cons, shR, resF, decide_eq_true_eq, List.reverse_nil, Nat.reduceLeDiff, Nat.reduceLT, Nat.reduceEqDiff, Int.reduceLT, Int.reduceLE, Int.reduceGT, Int.reduceEq, Int.reduceAdd, Int.reduceSub, Int.reduceMul, Int.reduceNeg, Int.reducePow, Int.reduceToNat, Nat.reducePow, Nat.reduceMul, ↓reduceIte, sTry_ap, tryK_ok, tryK_ex, catchK_true, catchK_false, fIsX_ap, isxK_x, isxK_n, fAttr_ap, attrK_x, sRaise1_ap, raiseK_d, sRaise0_ap, permI_nil, permI_cons, optCons_some, fPerm_ap, sPk_ap, setAll_cons, setAll_nil, opRep_ap, fTupF_ap, tupK_some, fLstL_ap, opIxL_ap, fCallL_ap, tTupA_t, tTupA_l, isa_int_int, isa_int_bool, isa_int_list, isa_int_tuple, isa_int_str, isa_bool_int, isa_bool_bool, isa_bool_list, isa_bool_tuple, isa_bool_str, isa_list_int, isa_list_bool, isa_list_list, isa_list_tuple, isa_list_str, isa_tuple_int, isa_tuple_bool, isa_tuple_list, isa_tuple_tuple, isa_tuple_str, isa_str_int, isa_str_bool, isa_str_list, isa_str_tuple, isa_str_str, isa_NoneType_int, isa_NoneType_bool, isa_NoneType_list, isa_NoneType_tuple, isa_NoneType_str, opIsB_b, opIsB_n, opIsB_i, $ts,*])
set_option Elab.async false
set_option linter.all false
set_option maxRecDepth 100000
set_option maxHeartbeats 1000000
set_option autoImplicit false
namespace DL
open PySem PySem.Spec PyProof.Rows L2
theorem minI_fold (a b : Int) : (if b < a then b else a) = minI a b := rfl
def castP (p : Nat × Nat) : Int × Int := ((p.1 : Int), (p.2 : Int))
abbrev exI (ns : List Int) : List (Int × Int) := (exchM ns).map castP
theorem sightsM_len (ns : List Int) (hl : ns.length < 100) : (sightsM ns).length ≤ 10000 := by
  have h := sights_len ns ns.length
  have hm : ns.length * ns.length ≤ 100 * 100 := Nat.mul_le_mul (by omega) (by omega)
  unfold sightsM
  omega
theorem pcast (i j : Nat) : pD (castP (i, j)) = .tuple [.int (i : Int), .int (j : Int)] := rfl
noncomputable def b_swapped : FS :=
  (sSq (sSet (fVar 1) (tTupA 2 (tCons (tN 2) (tCons (tN 3) tNil))))
  (sRt (fOp opAdd (fOp opAdd (fOp opAdd (fOp opAdd (fCl clTuple (fCons (fSl (fVar 0) fNoP (fPart (fVar 2))) fNil)) (fTup (fCons (fOp opIx (fVar 0) (fVar 3)) fNil))) (fCl clTuple (fCons (fSl (fVar 0) (fPart (fOp opAdd (fVar 2) (fC (.int 1)))) (fPart (fVar 3))) fNil))) (fTup (fCons (fOp opIx (fVar 0) (fVar 2)) fNil))) (fCl clTuple (fCons (fSl (fVar 0) (fPart (fOp opAdd (fVar 3) (fC (.int 1)))) fNoP) fNil)))))
noncomputable def fn_swapped : Fn := mkFn 4 b_swapped
theorem swapped_ok {ns : List Int} {x : PyData} {i j : Nat} (hx : Sq x (zD ns)) (hl : ns.length < 1000) (h1 : i < j) (h2 : j < ns.length) : fn_swapped [.d x, .d (pD (castP (i, j)))] [] = .ok (.dat (.tuple (zD (swapM ns i j)))) [] := by
  have a1 := at_getD (ns := ns) (i := i) (by omega)
  have a2 := at_getD h2
  have c1 : cut (zD ns) none (some ((i : Nat) : Int)) = zD (ns.take i) := by rw [cut_map, cut_to]
  have c2 : cut (zD ns) (some (((i : Nat) : Int) + 1)) (some ((j : Nat) : Int)) = zD (betw ns i j) := by rw [cut_map, cut_betw h1 h2]
  have c3 : cut (zD ns) (some (((j : Nat) : Int) + 1)) none = zD (ns.drop (j + 1)) := by rw [cut_map, show ((j : Int) + 1) = ((j + 1 : Nat) : Int) by omega, cut_from]
  have lb : (betw ns i j).length ≤ ns.length := by unfold betw; rw [List.length_take, List.length_drop]; omega
  have lt : (ns.take i).length ≤ ns.length := by rw [List.length_take]; omega
  have ld : (ns.drop (j + 1)).length ≤ ns.length := by rw [List.length_drop]; omega
  have es : zD (swapM ns i j) = zD (ns.take i) ++ [.int (ns.getD j 0)] ++ zD (betw ns i j) ++ [.int (ns.getD i 0)] ++ zD (ns.drop (j + 1)) := by
    unfold swapM zD
    simp only [List.map_append, List.map_cons, List.map_nil]
  rw [pcast, es]
  revert c1 c2 c3 lb lt ld
  generalize ns.take i = T
  generalize betw ns i j = M
  generalize ns.drop (j + 1) = D
  intro c1 c2 c3 lb lt ld
  rcases hx with rfl | rfl <;> simp! [fn_swapped, b_swapped, a1, a2, c1, c2, c3, List.length_append, show T.length + 1 ≤ 100000 by omega, show T.length + 1 + M.length ≤ 100000 by omega, show T.length + 1 + M.length + 1 ≤ 100000 by omega, show T.length + 1 + M.length + 1 + D.length ≤ 100000 by omega, Bool.false_eq_true]
end DL
set_option Elab.async false
set_option linter.all false
set_option maxRecDepth 100000
set_option maxHeartbeats 1000000
set_option autoImplicit false
namespace DL
open PySem PySem.Spec PyProof.Rows L2
noncomputable def b_law_cell_at : FS :=
  (sSq (sIte (fTst (fOp opLt (fVar 1) (fCl clLen (fCons (fVar 0) fNil)))) (sRt (fOp opIx (fVar 0) (fVar 1))) sNx)
  (sRt (fC (.int 0))))
noncomputable def fn_law_cell_at : Fn := mkFn 2 b_law_cell_at
theorem cell_at_ok (ns : List Int) (j : Nat) : fn_law_cell_at [.s ns, .d (.int j)] [] = .ok (.dat (.int (ns.getD j 0))) [] := by
  by_cases h : j < ns.length
  · have e : atI (ns.map PyData.int) (j : Int) = some (.int (ns.getD j 0)) := by
      rw [atI_cast, List.getElem?_map, List.getD_eq_getElem?_getD, List.getElem?_eq_getElem h]; rfl
    simp! [fn_law_cell_at, b_law_cell_at, show (j : Int) < ((ns.length : Nat) : Int) by omega, e]
  · have e : ns.getD j 0 = 0 := by rw [List.getD_eq_getElem?_getD, List.getElem?_eq_none (by omega)]; rfl
    rw [e]
    simp! [fn_law_cell_at, b_law_cell_at, show ¬ ((j : Int) < ((ns.length : Nat) : Int)) by omega]
noncomputable def b_law_box : FS :=
  (sSq (sSet (fCall fn_law_cell_at false (fCons (fVar 0) (fCons (fVar 1) fNil))) (tN 2))
  (sRt (fLstO (fCons (fOp opMul (fCl clAbs (fCons (fVar 2) fNil)) (fCl clInt (fCons (fOp opGe (fCl clAbs (fCons (fVar 2) fNil)) (fOp opPow (fC (.int 10)) (fC (.int 18)))) fNil))) (fCons (fOp opAdd (fOp opAdd (fOp opMod (fVar 2) (fC (.int 2305843009213693951))) (fOp opMul (fC (.int 39373)) (fVar 1))) (fC (.int 29))) (fCons (fC (.int 0)) fNil))))))
noncomputable def fn_law_box : Fn := mkFn 3 b_law_box
theorem box_ok (ns : List Int) (j : Nat) (hj : j < 64) : ∃ bx, fn_law_box [.s ns, .d (.int j)] [] = .ok (.newC (.lst bx)) [] ∧ BoxOk 0 bx := by
  have hp : ((10 : Int) ^ (18 : Int).toNat) = 1000000000000000000 := by decide
  have hm : mulOk (if ns.getD j 0 < 0 then -ns.getD j 0 else ns.getD j 0) (if 1000000000000000000 ≤ if ns.getD j 0 < 0 then -ns.getD j 0 else ns.getD j 0 then 1 else 0) = true := mulOk_r (by split <;> split <;> decide) (by split <;> split <;> decide)
  have hm2 : mulOk 39373 (j : Int) = true := mulOk_l (by decide) (by decide)
  refine ⟨boxM (ns.getD j 0) j, ?_, boxM_ok _ _ hj⟩
  simp! [fn_law_box, b_law_box, call_of (cell_at_ok ns j), hm, hm2, boxM, show (10 : Int).natAbs < 18446744073709551616 by decide, show (0 : Int) < 2305843009213693951 by decide, show (18 : Int) ≤ 1000000 by decide, show (0 : Int) ≤ 18 by decide]
  try rfl
noncomputable def b_law_take (rec : Fn) : FS :=
  (sSq (sIte (fTst (fOp opGt (fOp opIx (fVar 0) (fC (.int 0))) (fC (.int 0)))) (sSq (sSet (fOp opMod (fOp opIx (fVar 0) (fC (.int 0))) (fVar 1)) (tN 2))
    (sSq (sSet (fOp opDiv (fOp opIx (fVar 0) (fC (.int 0))) (fVar 1)) (tSub (fVar 0) (fC (.int 0))))
    (sRt (fVar 2)))) sNx)
  (sSq (sIte (fTst (fOp opGt (fVar 1) (fOp opPow (fC (.int 10)) (fC (.int 7))))) (sRt (fOp opMod (fOp opAdd (fCall rec false (fCons (fVar 0) (fCons (fOp opPow (fC (.int 10)) (fC (.int 7))) fNil))) (fOp opMul (fOp opPow (fC (.int 10)) (fC (.int 7))) (fCall rec false (fCons (fVar 0) (fCons (fOp opAdd (fOp opDiv (fVar 1) (fOp opPow (fC (.int 10)) (fC (.int 7)))) (fC (.int 1))) fNil))))) (fVar 1))) sNx)
  (sSq (sSet (fOp opAdd (fOp opIx (fVar 0) (fC (.int 2))) (fC (.int 1))) (tSub (fVar 0) (fC (.int 2))))
  (sSq (sSet (fOp opMod (fOp opMul (fOp opAdd (fOp opIx (fVar 0) (fC (.int 1))) (fOp opMul (fC (.int 48271)) (fOp opIx (fVar 0) (fC (.int 2))))) (fOp opAdd (fC (.int 39373)) (fOp opIx (fVar 0) (fC (.int 2))))) (fC (.int 2147483647))) (tN 3))
  (sSq (sSet (fOp opMod (fOp opMul (fOp opAdd (fOp opAdd (fVar 3) (fOp opIx (fVar 0) (fC (.int 2)))) (fOp opDiv (fOp opIx (fVar 0) (fC (.int 1))) (fC (.int 1000003)))) (fOp opAdd (fOp opMod (fVar 3) (fC (.int 40009))) (fC (.int 7)))) (fC (.int 2147483629))) (tN 4))
  (sRt (fOp opMod (fOp opDiv (fOp opMod (fOp opAdd (fOp opMul (fVar 4) (fC (.int 48271))) (fVar 3)) (fC (.int 2147483587))) (fC (.int 64))) (fVar 1))))))))
noncomputable def fn_law_take : Nat → Fn
  | 0 => fun _ _ => .no
  | n + 1 => mkFn 5 (b_law_take (fn_law_take n))
def onceM (b c : Int) : Int := (b + 48271 * c) * (39373 + c) % 2147483647
def twiceM (b c : Int) : Int := (onceM b c + c + b / 1000003) * (onceM b c % 40009 + 7) % 2147483629
def drawM (b c below : Int) : Int := (twiceM b c * 48271 + onceM b c) % 2147483587 / 64 % below
theorem ixN_30 : ixN 3 0 = some 0 := rfl
theorem ixN_32 : ixN 3 2 = some 2 := rfl
theorem take_ok : ∀ (k : Nat), k ≤ 4 → ∀ {n : Nat} {bx : List PyData} {below : Int}, BoxOk n bx → n + 2 ^ k < 1000000000 → 1 ≤ below → below ≤ 10 ^ (7 + 6 * k) → ∃ r bx', fn_law_take (k + 1) [.o 0, .d (.int below)] [.lst bx] = .ok (.dat (.int r)) [.lst bx'] ∧ 0 ≤ r ∧ r < below ∧ BoxOk (n + 2 ^ k) bx' := by
  intro k
  induction k with
  | zero =>
    intro hk n bx below hbx hn h1 h2
    obtain ⟨a, b, c, rfl, ha, hb0, hb1, hc0, hc1⟩ := hbx
    have p7 : ((10 : Int) ^ (7 : Int).toNat) = 10000000 := by decide
    have hb : below ≤ 10000000 := h2
    have hlog : below.natAbs.log2 < 9000 := log_small (by omega) (by omega)
    by_cases g1 : 0 < a
    · refine ⟨a % below, [.int (a / below), .int b, .int c], ?_, Int.emod_nonneg _ (by omega), Int.emod_lt_of_pos _ (by omega), ⟨_, _, _, rfl, Int.ediv_nonneg ha (by omega), hb0, hb1, hc0, by omega⟩⟩
      simp! [fn_law_take, b_law_take, atI_0, g1, show (0 : Int) < below by omega, hlog, ixN_30]
    · have m1 : mulOk 48271 (c + 1) = true := mulOk_l (by decide) (by decide)
      have m2 : ∀ u : Int, mulOk u (39373 + (c + 1)) = true := fun u => mulOk_r (by omega) (by omega)
      have m3 : ∀ u v : Int, mulOk u (v % 40009 + 7) = true := fun u v => by
        have := Int.emod_nonneg v (show (40009 : Int) ≠ 0 by decide)
        have := Int.emod_lt_of_pos v (show (0 : Int) < 40009 by decide)
        exact mulOk_r (by omega) (by omega)
      have m4 : ∀ u : Int, mulOk u 48271 = true := fun u => mulOk_r (by decide) (by decide)
      have l1 : (1000003 : Int).natAbs.log2 < 9000 := log_small (by decide) (by decide)
      have l2 : (64 : Int).natAbs.log2 < 9000 := log_small (by decide) (by decide)
      have g2 : ¬ (10000000 : Int) < below := by omega
      refine ⟨drawM b (c + 1) below, [.int a, .int b, .int (c + 1)], ?_, Int.emod_nonneg _ (by omega), Int.emod_lt_of_pos _ (by omega), ⟨_, _, _, rfl, ha, hb0, hb1, by omega, by omega⟩⟩
      simp! [fn_law_take, b_law_take, atI_0, atI_1, atI_2, g1, g2, m1, m2, m3, m4, l1, l2, show (0 : Int) < below by omega, hlog, ixN_32, show (10 : Int).natAbs < 18446744073709551616 by decide, drawM, twiceM, onceM]
  | succ k ih =>
    intro hk n bx below hbx hn h1 h2
    obtain ⟨a, b, c, rfl, ha, hb0, hb1, hc0, hc1⟩ := id hbx
    have hk' : k = 0 ∨ k = 1 ∨ k = 2 ∨ k = 3 := by omega
    have hk2 : 1 ≤ 2 ^ k := Nat.one_le_two_pow
    have hp1 : (10 : Int) ^ (7 + 6 * (k + 1)) ≤ 10 ^ 100 := by rcases hk' with rfl | rfl | rfl | rfl <;> decide
    have hlog : below.natAbs.log2 < 9000 := log_small (by omega) (by omega)
    have e2 : 2 ^ (k + 1) = 2 ^ k + 2 ^ k := by omega
    by_cases g1 : 0 < a
    · refine ⟨a % below, [.int (a / below), .int b, .int c], ?_, Int.emod_nonneg _ (by omega), Int.emod_lt_of_pos _ (by omega), ⟨_, _, _, rfl, Int.ediv_nonneg ha (by omega), hb0, hb1, hc0, by omega⟩⟩
      simp! [fn_law_take, b_law_take, atI_0, g1, show (0 : Int) < below by omega, hlog, ixN_30]
    · by_cases g2 : (10000000 : Int) < below
      · have q1 : (10 : Int) ^ (7 + 6 * k) ≥ 10 ^ 7 := by rcases hk' with rfl | rfl | rfl | rfl <;> decide
        have q2 : (10 : Int) ^ (7 + 6 * (k + 1)) = 10 ^ (6 * k + 6) * 10000000 := by
          rw [show 7 + 6 * (k + 1) = 6 * k + 6 + 7 by omega, Int.pow_add]; rfl
        have q3 : (10 : Int) ^ (7 + 6 * k) = 10 ^ (6 * k + 6) * 10 := by
          rw [show 7 + 6 * k = 6 * k + 6 + 1 by omega, Int.pow_succ]
        have q4 : (10 : Int) ^ (6 * k + 6) ≥ 10 ^ 6 := by rcases hk' with rfl | rfl | rfl | rfl <;> decide
        have q5 : below / 10000000 ≤ 10 ^ (6 * k + 6) := by
          rw [q2] at h2
          exact Int.ediv_le_of_le_mul (by decide) h2
        have q6 : 0 ≤ below / 10000000 := Int.ediv_nonneg (by omega) (by decide)
        obtain ⟨r1, bx1, f1, f2, f3, f4⟩ := ih (by omega) (below := 10000000) hbx (by omega) (by decide) (by omega)
        obtain ⟨r2, bx2, s1, s2, s3, s4⟩ := ih (by omega) (below := below / 10000000 + 1) f4 (by omega) (by omega) (by omega)
        have l1 : (10000000 : Int).natAbs.log2 < 9000 := log_small (by decide) (by decide)
        have m1 : mulOk 10000000 r2 = true := mulOk_l (by decide) (by decide)
        refine ⟨(r1 + 10000000 * r2) % below, bx2, ?_, Int.emod_nonneg _ (by omega), Int.emod_lt_of_pos _ (by omega), s4.mono (by omega)⟩
        have c1 := fun (sl : List (Option R)) => callB_of f1 (j := 0) (g := ⟨sl, [.lst [.int a, .int b, .int c]]⟩) false rfl
        have c2 := fun (sl : List (Option R)) => callB_of s1 (j := 0) (g := ⟨sl, [.lst bx1]⟩) false rfl
        rw [fn_law_take]
        simp! [b_law_take, atI_0, atI_1, atI_2, g1, g2, c1, c2, l1, m1, show (0 : Int) < below by omega, show (10 : Int).natAbs < 18446744073709551616 by decide]
      · have hb : below ≤ 10000000 := by omega
        have m1 : mulOk 48271 (c + 1) = true := mulOk_l (by decide) (by decide)
        have m2 : ∀ u : Int, mulOk u (39373 + (c + 1)) = true := fun u => mulOk_r (by omega) (by omega)
        have m3 : ∀ u v : Int, mulOk u (v % 40009 + 7) = true := fun u v => by
          have := Int.emod_nonneg v (show (40009 : Int) ≠ 0 by decide)
          have := Int.emod_lt_of_pos v (show (0 : Int) < 40009 by decide)
          exact mulOk_r (by omega) (by omega)
        have m4 : ∀ u : Int, mulOk u 48271 = true := fun u => mulOk_r (by decide) (by decide)
        have l1 : (1000003 : Int).natAbs.log2 < 9000 := log_small (by decide) (by decide)
        have l2 : (64 : Int).natAbs.log2 < 9000 := log_small (by decide) (by decide)
        have p2 : 1 ≤ 2 ^ (k + 1) := Nat.one_le_two_pow
        refine ⟨drawM b (c + 1) below, [.int a, .int b, .int (c + 1)], ?_, Int.emod_nonneg _ (by omega), Int.emod_lt_of_pos _ (by omega), ⟨_, _, _, rfl, ha, hb0, hb1, by omega, by omega⟩⟩
        simp! [fn_law_take, b_law_take, atI_0, atI_1, atI_2, g1, g2, m1, m2, m3, m4, l1, l2, show (0 : Int) < below by omega, hlog, ixN_32, show (10 : Int).natAbs < 18446744073709551616 by decide, drawM, twiceM, onceM]
/-- a draw below at most 10 ^ 25 -/
theorem take4 {n : Nat} {bx : List PyData} {below : Int} (h : BoxOk n bx) (hn : n < 900000000) (h1 : 1 ≤ below) (h2 : below ≤ 10 ^ 25) : ∃ r bx', fn_law_take 4 [.o 0, .d (.int below)] [.lst bx] = .ok (.dat (.int r)) [.lst bx'] ∧ 0 ≤ r ∧ r < below ∧ BoxOk (n + 8) bx' := take_ok 3 (by omega) h (by omega) h1 h2
end DL
set_option Elab.async false
set_option linter.all false
set_option maxRecDepth 100000
set_option maxHeartbeats 1000000
set_option autoImplicit false
namespace DL
open PySem PySem.Spec PyProof.Rows L2
noncomputable def b_law_of : FS :=
  (sRt (fOp opIx (fVar 1) (fCall (fn_law_take 4) false (fCons (fVar 0) (fCons (fCl clLen (fCons (fVar 1) fNil)) fNil)))))
noncomputable def fn_law_of : Fn := mkFn 2 b_law_of
theorem of_ok {n : Nat} {bx : List PyData} {x : PyData} {ds : List PyData} (h : BoxOk n bx) (hn : n < 900000000) (hx : Sq x ds) (h0 : 0 < ds.length) (h1 : ds.length ≤ 1000000) : ∃ d bx', d ∈ ds ∧ fn_law_of [.o 0, .d x] [.lst bx] = .ok (.dat d) [.lst bx'] ∧ BoxOk (n + 8) bx' := by
  obtain ⟨r, bx', e, r0, r1, hb⟩ := take4 (below := (ds.length : Nat)) h hn (by omega) (by omega)
  obtain ⟨d, hd, _, ha⟩ := atI_int (xs := ds) r0 r1
  have c1 := fun (sl : List (Option R)) => callB_of e (j := 0) (g := ⟨sl, [.lst bx]⟩) false rfl
  refine ⟨d, bx', hd, ?_, hb⟩
  rcases hx with rfl | rfl <;> simp! [fn_law_of, b_law_of, c1, ha]
noncomputable def wt_law_strewn_1 : FT := (fTst (fOp opNe (fVar 2) (fLst fNil)))
noncomputable def wu_law_strewn_1 : FS := (sEx (fMt mtAppend (fVar 3) (fCons (fMt mtPop (fVar 2) (fCons (fCall (fn_law_take 4) false (fCons (fVar 0) (fCons (fCl clLen (fCons (fVar 2) fNil)) fNil))) fNil)) fNil)))
noncomputable def b_law_strewn : FS :=
  (sSq (sP2 2 3 (fCons (fListO (fCons (fVar 1) fNil)) (fCons (fLstO fNil) fNil)))
  (sSq (sWh wt_law_strewn_1 wu_law_strewn_1)
  (sRt (fVar 3))))
noncomputable def fn_law_strewn : Fn := mkFn 4 b_law_strewn
theorem plain_list {ds : List PyData} {n : Nat} (h : ds.all (plain n) = true) (hn : n < 59) : SeqAt.shaped (.list ds) = true := plain_shaped (n := n + 1) (d := .list ds) h (by omega)
theorem eqv_nil {d : PyData} {ds : List PyData} : PyData.eqv (.list (d :: ds)) (.list []) = false := by simp [PyData.eqv, PyData.eqvAll]
theorem eqv_nil0 : PyData.eqv (.list []) (.list []) = true := by simp [PyData.eqv, PyData.eqvAll]
theorem shaped_nil : SeqAt.shaped (.list []) = true := by decide
theorem strewn_ok {n : Nat} {bx : List PyData} {x : PyData} {ds : List PyData} (h : BoxOk n bx) (hn : n + 8 * ds.length < 900000000) (hx : Sq x ds) (h1 : ds.length ≤ 10000) (hp : ds.all (plain 5) = true) : ∃ es bx', es.Perm ds ∧ fn_law_strewn [.o 0, .d x] [.lst bx] = .ok (.newC (.lst es)) [.lst bx'] ∧ BoxOk (n + 8 * ds.length) bx' := by
  obtain ⟨g', e, bx', es, rfl, hq, hb⟩ := sWh_inv (t := wt_law_strewn_1) (u := wu_law_strewn_1) (g := ⟨[some (.o 0), some (.d x), some (.o 1), some (.o 2)], [.lst bx, .lst ds, .lst []]⟩)
    (fun m g => ∃ bx' ls fs, g = ⟨[some (.o 0), some (.d x), some (.o 1), some (.o 2)], [.lst bx', .lst ls, .lst fs]⟩ ∧ ls.length = m ∧ (fs ++ ls).Perm ds ∧ BoxOk (n + 8 * fs.length) bx')
    (fun g => ∃ bx' fs, g = ⟨[some (.o 0), some (.d x), some (.o 1), some (.o 2)], [.lst bx', .lst [], .lst fs]⟩ ∧ fs.Perm ds ∧ BoxOk (n + 8 * fs.length) bx') ds.length ⟨bx, ds, [], rfl, rfl, List.Perm.refl _, h⟩ (fun m g hI => by
      obtain ⟨bx1, ls, fs, rfl, hm, hq, hb⟩ := hI
      have hl := hq.length_eq
      rw [List.length_append] at hl
      have hpl : ls.all (plain 5) = true := by
        rw [List.all_eq_true] at hp ⊢
        exact fun z hz => hp z (hq.subset (List.mem_append_right _ hz))
      have hs := plain_list hpl (by decide)
      cases ls with
      | nil =>
        refine .inl ⟨_, ?_, bx1, fs, rfl, by simpa using hq, hb⟩
        simp! [wt_law_strewn_1, shaped_nil, eqv_nil0]
      | cons d ls =>
        obtain ⟨r, bx2, e, r0, r1, hb2⟩ := take4 (below := ((d :: ls).length : Nat)) hb (by omega) (by simp only [List.length_cons]; omega) (by omega)
        have hr : r.toNat < (d :: ls).length := by omega
        have hx := List.getElem?_eq_getElem hr
        have c1 := fun (sl : List (Option R)) => callB_of e (j := 0) (g := ⟨sl, [.lst bx1, .lst (d :: ls), .lst fs]⟩) false rfl
        have hpop : popL r (d :: ls) = some (.d (d :: ls)[r.toNat], (d :: ls).eraseIdx r.toNat) := by
          unfold popL
          rw [if_pos ⟨by omega, by omega⟩, seqIx r0 r1]
          simp only [hx]
        simp only [List.length_cons] at c1
        refine .inr ⟨⟨[some (.o 0), some (.d x), some (.o 1), some (.o 2)], [.lst bx1, .lst (d :: ls), .lst fs]⟩, ⟨[some (.o 0), some (.d x), some (.o 1), some (.o 2)], [.lst bx2, .lst ((d :: ls).eraseIdx r.toNat), .lst (fs ++ [(d :: ls)[r.toNat]])]⟩, ((d :: ls).eraseIdx r.toNat).length, ?_, .inl ?_, ?_, bx2, _, _, rfl, rfl, perm_pop hq hx, hb2.mono ?_⟩
        · simp! [wt_law_strewn_1, hs, shaped_nil, eqv_nil]
        · simp! [wu_law_strewn_1, c1, hpop, show fs.length < 100000 by omega]
        · rw [List.length_eraseIdx_of_lt hr, ← hm]; simp only [List.length_cons]; omega
        · rw [List.length_append]; simp only [List.length_cons, List.length_nil]; omega)
  refine ⟨es, bx', hq, ?_, hb.mono (by rw [hq.length_eq]; exact Nat.le_refl _)⟩
  rcases hx with rfl | rfl <;> simp! [fn_law_strewn, b_law_strewn, e, show (1 : Nat) ≤ 2 by decide]
end DL
set_option Elab.async false
set_option linter.all false
set_option maxRecDepth 100000
set_option maxHeartbeats 1000000
set_option autoImplicit false
namespace DL
open PySem PySem.Spec PyProof.Rows L2
end DL
set_option Elab.async false
set_option linter.all false
set_option maxRecDepth 100000
set_option maxHeartbeats 1000000
set_option autoImplicit false
namespace DL
open PySem PySem.Spec PyProof.Rows L2
noncomputable def ct_law_sees_1 : FG := (tN 3)
noncomputable def cc_law_sees_1 : FT := fYes
noncomputable def cf_law_sees_1 : FE := (fOp opLt (fVar 3) (fCl clMin (fCons (fOp opIx (fVar 0) (fVar 1)) (fCons (fOp opIx (fVar 0) (fVar 2)) fNil))))
noncomputable def b_law_sees : FS :=
  (sRt (fCl clAll (fCons (fLc (iSeq (fSl (fVar 0) (fPart (fOp opAdd (fVar 1) (fC (.int 1)))) (fPart (fVar 2)))) ct_law_sees_1 cc_law_sees_1 cf_law_sees_1 [3]) fNil)))
noncomputable def fn_law_sees : Fn := mkFn 4 b_law_sees
theorem lsees_ok {ns : List Int} {x : PyData} {i j : Nat} (hx : Sq x (zD ns)) (hl : ns.length < 1000) (hij : i < j) (hj : j < ns.length) : fn_law_sees [.d x, .d (.int i), .d (.int j)] [] = .ok (.dat (.bool (seesN ns i j))) [] := by
  have a1 := at_getD (ns := ns) (i := i) (by omega)
  have a2 := at_getD hj
  have lb : (betw ns i j).length ≤ ns.length := by unfold betw; rw [List.length_take, List.length_drop]; omega
  have c2 : cut (zD ns) (some (((i : Nat) : Int) + 1)) (some ((j : Nat) : Int)) = (betw ns i j).map PyData.int := by rw [cut_map, cut_betw hij hj]
  have step := lcGo_map (emb := PyData.int) (t := ct_law_sees_1) (c := cc_law_sees_1) (f := cf_law_sees_1) (sl := [some (.d x), some (.d (.int i)), some (.d (.int j)), none]) (ws := [3]) (ce := []) (fun z => .bool (decide (z < minI (ns.getD i 0) (ns.getD j 0)))) (xs := betw ns i j) (by omega) (fun z hz => by
    rcases hx with rfl | rfl <;> simp! [lcSt, ct_law_sees_1, cc_law_sees_1, cf_law_sees_1, a1, a2, minI_fold])
  have e2 : (betw ns i j).map (fun z => PyData.bool (decide (z < minI (ns.getD i 0) (ns.getD j 0)))) = ((betw ns i j).map (fun z => decide (z < minI (ns.getD i 0) (ns.getD j 0)))).map PyData.bool := by rw [List.map_map]; rfl
  rw [e2] at step
  have e3 : ((betw ns i j).map (fun z => decide (z < minI (ns.getD i 0) (ns.getD j 0)))).all id = seesN ns i j := by rw [List.all_map]; rfl
  rcases hx with rfl | rfl <;> simp! [fn_law_sees, b_law_sees, c2, step, e3]
noncomputable def ct_law_swaps_1 : FG := (tN 3)
noncomputable def cc_law_swaps_1 : FT := (fTst (fCall fn_law_sees false (fCons (fVar 0) (fCons (fVar 2) (fCons (fVar 3) fNil)))))
noncomputable def cf_law_swaps_1 : FE := (fTup (fCons (fVar 2) (fCons (fVar 3) fNil)))
noncomputable def ft_law_swaps_1 : FG := (tN 2)
noncomputable def fu_law_swaps_1 : FS := (sSet (fOp opAdd (fVar 1) (fLc (iRg2 (fCons (fOp opAdd (fVar 2) (fC (.int 2))) (fCons (fCl clLen (fCons (fVar 0) fNil)) fNil))) ct_law_swaps_1 cc_law_swaps_1 cf_law_swaps_1 [3])) (tN 1))
noncomputable def b_law_swaps : FS :=
  (sSq (sSet (fLst fNil) (tN 1))
  (sSq (sFr (iRg1 (fCons (fCl clLen (fCons (fVar 0) fNil)) fNil)) ft_law_swaps_1 fu_law_swaps_1)
  (sRt (fVar 1))))
noncomputable def fn_law_swaps : Fn := mkFn 4 b_law_swaps
def exchAt (ns : List Int) (i : Nat) : List (Nat × Nat) := ((List.range' (i + 2) (ns.length - (i + 2))).filter (seesN ns i)).map (fun j => (i, j))
theorem flat_congr {α β : Type} {f g : α → List β} : ∀ {l : List α}, (∀ a ∈ l, f a = g a) → l.flatMap f = l.flatMap g
  | [], _ => rfl
  | a :: l, h => by
    rw [List.flatMap_cons, List.flatMap_cons, h a (by simp), flat_congr fun b hb => h b (by simp [hb])]
theorem exch_flat (ns : List Int) : exchM ns = (List.range ns.length).flatMap (exchAt ns) := by
  unfold exchM sightsM
  rw [List.filter_flatMap]
  refine flat_congr fun i hi => ?_
  have hi := List.mem_range.mp hi
  unfold sightsAt exchAt
  rw [List.filter_map, List.filter_filter]
  have e : ∀ l : List Nat, (∀ j ∈ l, i + 1 < j) → l.filter (fun a => ((fun p : Nat × Nat => decide (p.1 + 1 < p.2)) ∘ fun j => (i, j)) a && seesN ns i a) = l.filter (seesN ns i) := fun l hl => List.filter_congr fun j hj => by
    have := hl j hj
    simp [this]
  by_cases h : i + 1 < ns.length
  · rw [show ns.length - (i + 1) = (ns.length - (i + 2)) + 1 by omega, List.range'_succ, List.filter_cons_of_neg (by simp), e _ fun j hj => by have := List.mem_range'_1.mp hj; omega]
  · rw [show ns.length - (i + 1) = 0 by omega, show ns.length - (i + 2) = 0 by omega]
    rfl
theorem exchAt_len (ns : List Int) (i : Nat) : (exchAt ns i).length ≤ ns.length := by
  unfold exchAt
  rw [List.length_map]
  have := List.length_filter_le (seesN ns i) (List.range' (i + 2) (ns.length - (i + 2)))
  rw [List.length_range'] at this
  omega
theorem exchF_len (ns : List Int) : ∀ i, ((List.range i).flatMap (exchAt ns)).length ≤ i * ns.length
  | 0 => by simp
  | i + 1 => by
    have := exchF_len ns i
    have h2 := exchAt_len ns i
    rw [List.range_succ, List.flatMap_append, List.length_append, Nat.add_mul]
    simp only [List.flatMap_cons, List.flatMap_nil, List.append_nil, Nat.one_mul]
    omega
theorem swaps_ok {ns : List Int} {x : PyData} (hx : Sq x (zD ns)) (hl : ns.length < 100) : fn_law_swaps [.d x] [] = .ok (.dat (.list (psD (exI ns)))) [] := by
  have hr : rOk ((ns.length : Nat) : Int) = true := rOk_of (by omega) (by omega)
  obtain ⟨g', e, a, b, rfl⟩ := forGo_inv (emb := fun (i : Nat) => PyData.int (i : Int)) (t := ft_law_swaps_1) (u := fu_law_swaps_1) (xs := List.range ns.length) (g := ⟨[some (.d x), some (.d (.list [])), none, none], []⟩)
    (fun i g => ∃ a b, g = ⟨[some (.d x), some (.d (.list (psD (((List.range i).flatMap (exchAt ns)).map castP)))), a, b], []⟩) ⟨none, none, rfl⟩ (fun k z g hz hI => by
      obtain ⟨a, b, rfl⟩ := hI
      have hi : k < ns.length := by
        have := (List.getElem?_eq_some_iff.mp hz).1
        simpa using this
      have ez : z = k := by
        have := (List.getElem?_eq_some_iff.mp hz).2
        simpa using this.symm
      subst ez
      have hz1 : ((z : Nat) : Int) + 2 = ((z + 2 : Nat) : Int) := by omega
      have ht : (((ns.length : Nat) : Int) - ((z + 2 : Nat) : Int)).toNat = ns.length - (z + 2) := by omega
      have er := rngN (z + 2) (ns.length - (z + 2))
      have hr2 : rOk ((z + 2 : Nat) : Int) = true := rOk_of (by omega) (by omega)
      have step := lcGo_pure (emb := fun (j : Nat) => PyData.int (j : Int)) (t := ct_law_swaps_1) (c := cc_law_swaps_1) (f := cf_law_swaps_1) (sl := [some (.d x), some (.d (.list (psD (((List.range z).flatMap (exchAt ns)).map castP)))), some (.d (.int z)), b]) (ws := [3]) (ce := []) (seesN ns z) (fun j => pD (castP (z, j))) (List.range' (z + 2) (ns.length - (z + 2))) [] (by simp; omega) (fun q hq => by
        have hq := List.mem_range'_1.mp hq
        have r := lsees_ok (i := z) (j := q) hx (by omega) (by omega) (by omega)
        cases hs : seesN ns z q <;> rw [hs] at r <;> simp! [lcSt, ct_law_swaps_1, cc_law_swaps_1, cf_law_swaps_1, call_of r, castP, pD])
      have e2 : ((List.range' (z + 2) (ns.length - (z + 2))).filter (seesN ns z)).map (fun j => pD (castP (z, j))) = psD ((exchAt ns z).map castP) := by
        unfold exchAt psD
        rw [List.map_map, List.map_map]
        rfl
      rw [List.nil_append, e2] at step
      have l1 := exchF_len ns z
      have l2 := exchAt_len ns z
      have hm : z * ns.length ≤ 100 * 100 := Nat.mul_le_mul (by omega) (by omega)
      refine ⟨⟨[some (.d x), some (.d (.list (psD (((List.range (z + 1)).flatMap (exchAt ns)).map castP)))), some (.d (.int z)), b], []⟩, .inl ?_, _, _, rfl⟩
      have e3 : psD (((List.range (z + 1)).flatMap (exchAt ns)).map castP) = psD (((List.range z).flatMap (exchAt ns)).map castP) ++ psD ((exchAt ns z).map castP) := by
        rw [List.range_succ, List.flatMap_append, List.map_append]
        unfold psD
        rw [List.map_append]
        simp
      rw [e3]
      have lim : ((List.range z).flatMap (exchAt ns)).length + (exchAt ns z).length ≤ 100000 := by omega
      rcases hx with rfl | rfl <;> simp! [ft_law_swaps_1, fu_law_swaps_1, hz1, ht, hr, hr2, er, step, cat2, lim])
  rw [List.length_range, ← rng0] at e
  rw [show exI ns = ((List.range ns.length).flatMap (exchAt ns)).map castP by show List.map castP (exchM ns) = _; rw [exch_flat]]
  rcases hx with rfl | rfl <;> simp! [fn_law_swaps, b_law_swaps, hr, Int.toNat_natCast, e, Nat.zero_le]
noncomputable def b_law_turned : FS :=
  (sSq (sSet (fVar 1) (tTupA 2 (tCons (tN 2) (tCons (tN 3) tNil))))
  (sRt (fOp opAdd (fOp opAdd (fOp opAdd (fOp opAdd (fSl (fVar 0) fNoP (fPart (fVar 2))) (fTup (fCons (fOp opIx (fVar 0) (fVar 3)) fNil))) (fSl (fVar 0) (fPart (fOp opAdd (fVar 2) (fC (.int 1)))) (fPart (fVar 3)))) (fTup (fCons (fOp opIx (fVar 0) (fVar 2)) fNil))) (fSl (fVar 0) (fPart (fOp opAdd (fVar 3) (fC (.int 1)))) fNoP))))
noncomputable def fn_law_turned : Fn := mkFn 4 b_law_turned
theorem turned_ok {ns : List Int} {i j : Nat} (hl : ns.length < 1000) (h1 : i < j) (h2 : j < ns.length) : fn_law_turned [.d (.tuple (zD ns)), .d (pD (castP (i, j)))] [] = .ok (.dat (.tuple (zD (swapM ns i j)))) [] := by
  have a1 := at_getD (ns := ns) (i := i) (by omega)
  have a2 := at_getD h2
  have c1 : cut (zD ns) none (some ((i : Nat) : Int)) = zD (ns.take i) := by rw [cut_map, cut_to]
  have c2 : cut (zD ns) (some (((i : Nat) : Int) + 1)) (some ((j : Nat) : Int)) = zD (betw ns i j) := by rw [cut_map, cut_betw h1 h2]
  have c3 : cut (zD ns) (some (((j : Nat) : Int) + 1)) none = zD (ns.drop (j + 1)) := by rw [cut_map, show ((j : Int) + 1) = ((j + 1 : Nat) : Int) by omega, cut_from]
  have lb : (betw ns i j).length ≤ ns.length := by unfold betw; rw [List.length_take, List.length_drop]; omega
  have lt : (ns.take i).length ≤ ns.length := by rw [List.length_take]; omega
  have ld : (ns.drop (j + 1)).length ≤ ns.length := by rw [List.length_drop]; omega
  have es : zD (swapM ns i j) = zD (ns.take i) ++ [.int (ns.getD j 0)] ++ zD (betw ns i j) ++ [.int (ns.getD i 0)] ++ zD (ns.drop (j + 1)) := by
    unfold swapM zD
    simp only [List.map_append, List.map_cons, List.map_nil]
  rw [pcast, es]
  revert c1 c2 c3 lb lt ld
  generalize ns.take i = T
  generalize betw ns i j = M
  generalize ns.drop (j + 1) = D
  intro c1 c2 c3 lb lt ld
  simp! [fn_law_turned, b_law_turned, a1, a2, c1, c2, c3, List.length_append, show T.length + 1 ≤ 100000 by omega, show T.length + 1 + M.length ≤ 100000 by omega, show T.length + 1 + M.length + 1 ≤ 100000 by omega, show T.length + 1 + M.length + 1 + D.length ≤ 100000 by omega, Bool.false_eq_true]
end DL
set_option Elab.async false
set_option linter.all false
set_option maxRecDepth 100000
set_option autoImplicit false
namespace DL
def sc (b : Int) (ks : List Int) : List Int := ks.map (· * b)
end DL
set_option Elab.async false
set_option linter.all false
set_option maxRecDepth 100000
set_option maxHeartbeats 1000000
set_option autoImplicit false
namespace DL
open PySem PySem.Spec PyProof.Rows L2
def pL (p : Int × Int) : PyData := .list [.int p.1, .int p.2]
end DL
set_option Elab.async false
set_option linter.all false
set_option maxRecDepth 100000
set_option autoImplicit false
namespace DL
open PySem PySem.Spec PyProof.Rows L2
/-- one move: an exchange, or two neighbours whose indices are joined -/
def Mv (here : List (Int × Int)) (ns ms : List Int) : Prop := ∃ A x M y D, ns = rowE A x M y D ∧ ms = rowE A y M x D ∧ (∀ m ∈ M, m < x ∧ m < y) ∧ (M ≠ [] ∨ Jn here A.length)
inductive Rc (here : List (Int × Int)) : List Int → List Int → Prop
  | refl (ns : List Int) : Rc here ns ns
  | step {a b c : List Int} : Mv here a b → Rc here b c → Rc here a c
theorem Rc.trans {here : List (Int × Int)} {a b c : List Int} (h : Rc here a b) : Rc here b c → Rc here a c := by
  induction h with
  | refl _ => exact id
  | step m _ ih => exact fun q => .step m (ih q)
theorem Rc.one {here : List (Int × Int)} {a b : List Int} (h : Mv here a b) : Rc here a b := .step h (.refl _)
theorem Mv.symm {here : List (Int × Int)} {a b : List Int} (h : Mv here a b) : Mv here b a := by
  obtain ⟨A, x, M, y, D, e1, e2, hM, hj⟩ := h
  exact ⟨A, y, M, x, D, e2, e1, fun m hm => ⟨(hM m hm).2, (hM m hm).1⟩, hj⟩
theorem Rc.symm {here : List (Int × Int)} {a b : List Int} (h : Rc here a b) : Rc here b a := by
  induction h with
  | refl _ => exact .refl _
  | step m _ ih => exact ih.trans (.one m.symm)
end DL
set_option Elab.async false
set_option linter.all false
set_option maxRecDepth 100000
set_option maxHeartbeats 1000000
set_option autoImplicit false
namespace DL
open PySem PySem.Spec PyProof.Rows L2
end DL
set_option Elab.async false
set_option linter.all false
set_option maxRecDepth 100000
set_option maxHeartbeats 1000000
set_option autoImplicit false
namespace DL
open PySem PySem.Spec PyProof.Rows L2
end DL
set_option Elab.async false
set_option linter.all false
set_option maxRecDepth 100000
set_option maxHeartbeats 1000000
set_option autoImplicit false
namespace DL
open PySem PySem.Spec PyProof.Rows L2
theorem inB_sq {ns : List Int} {x : PyData} {h : Int} (hx : Sq x (zD ns)) (g : G) : inB g (.d (.int h)) (.d x) = some (decide (h ∈ ns)) := by
  rcases hx with rfl | rfl
  · simp only [inB, dictAt, datOf, any_zD, shaped_zL, shaped_int, Bool.and_self, if_true]
  · simp only [inB, dictAt, datOf, seqOf, asInts_map, Option.map_some]
theorem cutZ_to (ns : List Int) (p : Nat) : cut (zD ns) none (some (p : Int)) = zD (ns.take p) := by rw [cut_to]; unfold zD; rw [List.map_take]
theorem cutZ_from (ns : List Int) (p : Nat) : cut (zD ns) (some (p : Int)) none = zD (ns.drop p) := by rw [cut_from]; unfold zD; rw [List.map_drop]
end DL
set_option Elab.async false
set_option linter.all false
set_option maxRecDepth 100000
set_option maxHeartbeats 1000000
set_option autoImplicit false
namespace DL
open PySem PySem.Spec PyProof.Rows L2
noncomputable def ct_law_same_1 (rec : Fn) : FG := (tTupA 2 (tCons (tN 2) (tCons (tN 3) tNil)))
noncomputable def cc_law_same_1 (rec : Fn) : FT := fYes
noncomputable def cf_law_same_1 (rec : Fn) : FE := (fCall rec false (fCons (fVar 2) (fCons (fVar 3) fNil)))
noncomputable def b_law_same (rec : Fn) : FS :=
  (sSq (sIte (fTst (fIsi2 "list" "tuple" (fVar 1))) (sSq (sIte (fOrT (fTst (fOp opNe (fIsi "list" (fVar 0)) (fIsi "list" (fVar 1)))) (fTst (fOp opNe (fIsi "tuple" (fVar 0)) (fIsi "tuple" (fVar 1))))) (sRt (fC (.bool false))) sNx)
    (sRt (fAnd (fOp opEq (fCl clLen (fCons (fVar 0) fNil)) (fCl clLen (fCons (fVar 1) fNil))) (fCl clAll (fCons (fLc (iZ2 (fCons (fVar 0) (fCons (fVar 1) fNil))) (ct_law_same_1 rec) (cc_law_same_1 rec) (cf_law_same_1 rec) [2, 3]) fNil))))) sNx)
  (sSq (sIte (fOrT (fTst (fOp opIsN (fVar 1) (fC .none))) (fTst (fIsi2 "bool" "str" (fVar 1)))) (sRt (fAnd (fOp opEq (fVar 0) (fVar 1)) (fAnd (fOp opEq (fIsi "bool" (fVar 0)) (fIsi "bool" (fVar 1))) (fOp opEq (fOp opIsN (fVar 0) (fC .none)) (fOp opIsN (fVar 1) (fC .none)))))) sNx)
  (sRt (fAnd (fIsi "int" (fVar 0)) (fAnd (fNot (fIsi "bool" (fVar 0))) (fOp opEq (fVar 0) (fVar 1)))))))
noncomputable def fn_law_same : Nat → Fn
  | 0 => fun _ _ => .no
  | n + 1 => mkFn 4 (b_law_same (fn_law_same n))
def okD : Nat → PyData → Bool
  | n + 1, .int _ => true
  | n + 1, .bool _ => true
  | n + 1, .none => true
  | n + 1, .str s => PyData.strOk s
  | n + 1, .list ds => decide (ds.length < 1000) && ds.all (okD n)
  | n + 1, .tuple ds => decide (ds.length < 1000) && ds.all (okD n)
  | _, _ => false
theorem sh_bool (b : Bool) : SeqAt.shaped (.bool b) = true := by cases b <;> decide
theorem sh_none : SeqAt.shaped .none = true := by decide
theorem eqv_bb (a b : Bool) : PyData.eqv (.bool a) (.bool b) = decide (a = b) := by cases a <;> cases b <;> rfl
theorem sh_str {s : Str} (h : PyData.strOk s = true) : SeqAt.shaped (.str s) = true := by simp [SeqAt.shaped, PyData.canLay0, PyData.depth, h]
theorem eqv_ss (s : Str) : PyData.eqv (.str s) (.str s) = true := by simp [PyData.eqv]
theorem eqv_nn : PyData.eqv .none .none = true := by rfl
theorem zip2_self (ds : List PyData) : zip2 ds ds = ds.map (fun d => PyData.tuple [d, d]) := by
  have := zip2_map (fun d : PyData => d) (fun d : PyData => d) ds ds
  simp only [List.map_id'] at this
  rw [this]
  induction ds with
  | nil => rfl
  | cons d ds ih => rw [List.zip_cons_cons, List.map_cons, List.map_cons]; congr 1; exact ih (by simpa using zip2_map (fun d : PyData => d) (fun d : PyData => d) ds ds)
theorem same_ok : ∀ (n : Nat) (x : PyData), okD n x = true → fn_law_same n [.d x, .d x] [] = .ok (.dat (.bool true)) []
  | 0, x, h => by cases h
  | n + 1, x, h => by
    have gen : ∀ (ds : List PyData) (y : PyData), (decide (ds.length < 1000) && ds.all (okD n)) = true → lcGo (ct_law_same_1 (fn_law_same n)) (cc_law_same_1 (fn_law_same n)) (cf_law_same_1 (fn_law_same n)) [some (.d y), some (.d y), none, none] [2, 3] (zip2 ds ds) [] [] = .ok ((List.replicate ds.length true).map PyData.bool) ⟨[some (.d y), some (.d y), none, none], []⟩ := fun ds y hd => by
      simp only [Bool.and_eq_true, decide_eq_true_eq, List.all_eq_true] at hd
      have s := lcGo_map (emb := fun d => PyData.tuple [d, d]) (t := ct_law_same_1 (fn_law_same n)) (c := cc_law_same_1 (fn_law_same n)) (f := cf_law_same_1 (fn_law_same n)) (sl := [some (.d y), some (.d y), none, none]) (ws := [2, 3]) (ce := []) (fun _ => .bool true) (xs := ds) (by omega) (fun d hm => by
        have r := same_ok n d (hd.2 d hm)
        simp! [lcSt, ct_law_same_1, cc_law_same_1, cf_law_same_1, call_of r])
      rw [zip2_self, s, List.map_replicate, List.map_const']
    have ea : ∀ k : Nat, (List.replicate k true).all id = true := fun k => by rw [List.all_eq_true]; intro z hz; exact (List.mem_replicate.mp hz).2
    cases x with
    | int i => simp! only [fn_law_same, b_law_same, Bool.or_false, Bool.or_true]
    | bool b => simp! only [fn_law_same, b_law_same, sh_bool, eqv_bb, Bool.or_false, Bool.or_true, Bool.true_or, Bool.false_or]
    | none => simp! only [fn_law_same, b_law_same, sh_bool, sh_none, eqv_nn, eqv_bb, Bool.or_false, Bool.or_true, Bool.true_or, Bool.false_or]
    | str z => simp! only [fn_law_same, b_law_same, sh_bool, sh_str (show PyData.strOk z = true from h), eqv_ss, eqv_bb, Bool.or_false, Bool.or_true, Bool.true_or, Bool.false_or]
    | list ds => simp! only [fn_law_same, b_law_same, sh_bool, eqv_bb, gen ds _ h, ea, Bool.or_false, Bool.or_true, Bool.true_or, Bool.false_or]
    | tuple ds => simp! only [fn_law_same, b_law_same, sh_bool, eqv_bb, gen ds _ h, ea, Bool.or_false, Bool.or_true, Bool.true_or, Bool.false_or]
    | _ => cases h
end DL
set_option Elab.async false
set_option linter.all false
set_option maxRecDepth 100000
set_option maxHeartbeats 1000000
set_option autoImplicit false
namespace DL
open PySem PySem.Spec PyProof.Rows L2
noncomputable def b_is_number : FS :=
  (sRt (fAnd (fIsi "int" (fVar 0)) (fNot (fIsi "bool" (fVar 0)))))
noncomputable def fn_is_number : Fn := mkFn 1 b_is_number
def isI : PyData → Bool
  | .int _ => true
  | _ => false
theorem is_number_gen (d : PyData) (hd : d.hasDict = false) : fn_is_number [.d d] [] = .ok (.dat (.bool (isI d))) [] := by
  cases d with
  | dict kvs => simp only [PyData.hasDict] at hd; cases hd
  | int i => simp! only [fn_is_number, b_is_number, isI]
  | _ => simp! only [fn_is_number, b_is_number, isI]
theorem noDict_at {x : PyData} {ds : List PyData} (hx : Sq x ds) (h : x.hasDict = false) : ∀ d ∈ ds, d.hasDict = false := by
  have h : PyData.hasDictAll ds = false := by rcases hx with rfl | rfl <;> simpa only [PyData.hasDict] using h
  clear hx
  induction ds with
  | nil => intro d hd; cases hd
  | cons a as ih =>
    simp only [PyData.hasDictAll, Bool.or_eq_false_iff] at h
    intro d hd
    rcases List.mem_cons.mp hd with rfl | hd
    · exact h.1
    · exact ih h.2 d hd
noncomputable def b_law_is_int : FS :=
  (sRt (fAnd (fIsi "int" (fVar 0)) (fNot (fIsi "bool" (fVar 0)))))
noncomputable def fn_law_is_int : Fn := mkFn 1 b_law_is_int
theorem is_int_gen (d : PyData) (hd : d.hasDict = false) : fn_law_is_int [.d d] [] = .ok (.dat (.bool (isI d))) [] := by
  cases d with
  | dict kvs => simp only [PyData.hasDict] at hd; cases hd
  | int i => simp! only [fn_law_is_int, b_law_is_int, isI]
  | _ => simp! only [fn_law_is_int, b_law_is_int, isI]
end DL
set_option Elab.async false
set_option linter.all false
set_option maxRecDepth 100000
set_option maxHeartbeats 1000000
set_option autoImplicit false
namespace DL
open PySem PySem.Spec PyProof.Rows L2
end DL
set_option Elab.async false
set_option linter.all false
set_option maxRecDepth 100000
set_option maxHeartbeats 1000000
set_option autoImplicit false
namespace DL
open PySem PySem.Spec PyProof.Rows L2
end DL
set_option Elab.async false
set_option linter.all false
set_option maxRecDepth 100000
set_option autoImplicit false
namespace DL
open PySem PySem.Spec PyProof.Rows L2
theorem sub_len {α : Type} [DecidableEq α] : ∀ {a b : List α}, a.Nodup → (∀ x ∈ a, x ∈ b) → a.length ≤ b.length
  | [], b, _, _ => Nat.zero_le _
  | x :: a, b, nd, h => by
    rw [List.nodup_cons] at nd
    have hx : x ∈ b := h x List.mem_cons_self
    have := sub_len (a := a) (b := b.erase x) nd.2 fun y hy => (List.mem_erase_of_ne (fun (e : y = x) => nd.1 (e ▸ hy))).mpr (h y (List.mem_cons_of_mem _ hy))
    rw [List.length_erase_of_mem hx] at this
    have : 0 < b.length := List.length_pos_of_mem hx
    rw [List.length_cons]
    omega
end DL
set_option Elab.async false
set_option linter.all false
set_option maxRecDepth 100000
set_option autoImplicit false
namespace DL
open PySem PySem.Spec PyProof.Rows L2
def kR (r : List Int) : List Key := r.map Sum.inl
theorem kR_inj {a b : List Int} : kR a = kR b ↔ a = b := by
  constructor
  · intro h
    induction a generalizing b with
    | nil => cases b with
      | nil => rfl
      | cons y b => cases h
    | cons x a ih => cases b with
      | nil => cases h
      | cons y b =>
        injection h with h1 h2
        injection h1 with h1
        rw [h1, ih h2]
  · intro h; rw [h]
theorem tkey_row (r : List Int) : tkeyOf (.tuple (zD r)) = some (kR r) := by
  show keysOf (zD r) = some (kR r)
  induction r with
  | nil => rfl
  | cons a r ih =>
    show (match DL.keyOf (.int a), keysOf (zD r) with
      | some k, some ks => some (k :: ks)
      | _, _ => none) = _
    rw [ih]
    rfl
end DL
set_option Elab.async false
set_option linter.all false
set_option maxRecDepth 100000
set_option maxHeartbeats 1000000
set_option autoImplicit false
namespace DL
open PySem PySem.Spec PyProof.Rows L2
def emP (t : Bool) (p : Int × Int) : PyData := if t then pD p else pL p
def rngI (n : Nat) : List Int := (List.range n).map fun (i : Nat) => (i : Int)
theorem rgT (t : Bool) (n : Nat) (hn : n < 1000) (g : G) : rgK t 0 (n : Int) g = .ok (.d (if t then .tuple (zD (rngI n)) else .list (zD (rngI n)))) g := by
  have e : rng 0 n = zD (rngI n) := by rw [rng0]; unfold rngI zD; rw [List.map_map]; rfl
  have e2 : ((n : Int) - 0).toNat = n := by omega
  have h : rgOk 0 (n : Int) = true := decide_eq_true (by omega)
  unfold rgK
  rw [h, e2, e]
  cases t <;> rfl
def addK (D : List (List Int)) (k : List Int) : List (List Int) := if k ∈ D then D else D ++ [k]
def tE (D : List (List Int)) : List (List Key × PyData) := D.map fun k => (kR k, .bool true)
theorem tE_keys (D : List (List Int)) : (tE D).map (·.1) = D.map (·.map Sum.inl) := by unfold tE; rw [List.map_map]; rfl
theorem tE_len (D : List (List Int)) : (tE D).length = D.length := List.length_map ..
theorem put_tE (D : List (List Int)) (k : List Int) : putP (tE D) (kR k) (.bool true) = tE (addK D k) := by
  have ha : (tE D).any (fun p => decide (p.1 = kR k)) = decide (k ∈ D) := by
    unfold tE
    rw [List.any_map]
    induction D with
    | nil => rfl
    | cons d D ih =>
      rw [List.any_cons, ih]
      have : decide (kR d = kR k) = decide (d = k) := decide_eq_decide.mpr kR_inj
      show (decide (kR d = kR k) || _) = _
      rw [this]
      by_cases e : d = k
      · subst e; simp
      · have : ¬ k = d := fun z => e z.symm
        simp [e, this]
  unfold putP addK
  rw [ha]
  by_cases h : k ∈ D
  · rw [if_pos h, if_pos (decide_eq_true h)]
    unfold tE
    rw [List.map_map]
    refine List.map_congr_left fun d _ => ?_
    show (if kR d = kR k then (kR d, PyData.bool true) else (kR d, .bool true)) = _
    split <;> rfl
  · rw [if_neg h, if_neg (by rw [decide_eq_false h]; simp)]
    unfold tE
    rw [List.map_append]
    rfl
theorem putAll_tE : ∀ (E D : List (List Int)), putAllP (tE D) (tE E) = tE (E.foldl addK D)
  | [], D => rfl
  | k :: E, D => by
    show putAllP (putP (tE D) (kR k) (.bool true)) (tE E) = _
    rw [put_tE, putAll_tE E]
    rfl
theorem mem_addK {D : List (List Int)} {k z : List Int} : z ∈ addK D k ↔ z ∈ D ∨ z = k := by
  unfold addK
  split
  · rename_i h
    exact ⟨.inl, fun q => q.elim id fun e => e ▸ h⟩
  · rw [List.mem_append, List.mem_singleton]
theorem two_fold (D : List (List Int)) (k1 k2 : List Int) : (addK (addK [] k1) k2).foldl addK D = addK (addK D k1) k2 := by
  have e0 : addK [] k1 = [k1] := rfl
  rw [e0]
  by_cases e : k2 = k1
  · subst e
    have e1 : addK [k2] k2 = [k2] := by unfold addK; rw [if_pos List.mem_cons_self]
    rw [e1]
    have : k2 ∈ addK D k2 := mem_addK.mpr (.inr rfl)
    exact (show addK (addK D k2) k2 = addK D k2 from if_pos this).symm
  · have e1 : addK [k1] k2 = [k1, k2] := by unfold addK; rw [if_neg (by simpa using e)]; rfl
    rw [e1]
    rfl
theorem h16 : (List.range 16).all (fun (z : Nat) => decide ((List.range 16).map fun (a : Nat) => hT [(z : Int), (a : Int)]).Nodup) = true := by decide +kernel
theorem hT_ne {z a b : Nat} (hz : z < 16) (ha : a < 16) (hb : b < 16) (h : a ≠ b) : hT [(z : Int), (a : Int)] ≠ hT [(z : Int), (b : Int)] := by
  have := of_decide_eq_true (List.all_eq_true.mp h16 z (List.mem_range.mpr hz))
  intro e
  have l1 : a < ((List.range 16).map fun (a : Nat) => hT [(z : Int), (a : Int)]).length := by simpa using ha
  have l2 : b < ((List.range 16).map fun (a : Nat) => hT [(z : Int), (a : Int)]).length := by simpa using hb
  have e' : ((List.range 16).map fun (a : Nat) => hT [(z : Int), (a : Int)])[a] = ((List.range 16).map fun (a : Nat) => hT [(z : Int), (a : Int)])[b] := by
    rw [List.getElem_map, List.getElem_map, List.getElem_range, List.getElem_range]
    exact e
  exact h ((List.getElem_inj this).mp e')
theorem hash_two {z a b : Nat} (hz : z < 16) (ha : a < 16) (hb : b < 16) (h : a ≠ b) : hashD (tE (addK (addK [] [(z : Int), (a : Int)]) [(z : Int), (b : Int)])) = true := by
  unfold hashD
  rw [asKT_of (tE_keys _)]
  refine decide_eq_true ?_
  have e1 : addK (addK [] [(z : Int), (a : Int)]) [(z : Int), (b : Int)] = [[(z : Int), (a : Int)], [(z : Int), (b : Int)]] := by
    show addK [[(z : Int), (a : Int)]] _ = _
    unfold addK
    rw [if_neg (by
      rw [List.mem_singleton]
      intro e
      simp only [List.cons.injEq, and_true, true_and] at e
      omega)]
    rfl
  rw [e1]
  simp only [List.map_cons, List.map_nil, List.nodup_cons, List.mem_cons, List.not_mem_nil, or_false, not_false_eq_true, List.nodup_nil, and_true]
  exact hT_ne hz ha hb h
structure GoodK (D : List (List Int)) : Prop where
  nd : D.Nodup
  ks : ∀ k ∈ D, ∃ a b : Nat, a < 16 ∧ b < 16 ∧ k = [(a : Int), (b : Int)]
theorem GoodK.add {D : List (List Int)} (g : GoodK D) {a b : Nat} (ha : a < 16) (hb : b < 16) : GoodK (addK D [(a : Int), (b : Int)]) := by
  refine ⟨?_, fun k hk => ?_⟩
  · unfold addK
    split
    · exact g.nd
    · rename_i h
      exact List.nodup_append.mpr ⟨g.nd, by simp, fun x hx y hy e => by
        rw [List.mem_singleton.mp hy] at e
        exact h (e ▸ hx)⟩
  · rcases mem_addK.mp hk with h | h
    · exact g.ks k h
    · exact ⟨a, b, ha, hb, h⟩
theorem GoodK.len {D : List (List Int)} (g : GoodK D) : D.length ≤ 256 := by
  have := sub_len (b := (List.range 256).map fun (i : Nat) => [((i / 16 : Nat) : Int), ((i % 16 : Nat) : Int)]) g.nd fun k hk => by
    obtain ⟨a, b, ha, hb, rfl⟩ := g.ks k hk
    refine List.mem_map.mpr ⟨16 * a + b, List.mem_range.mpr (by omega), ?_⟩
    have e1 : (16 * a + b) / 16 = a := by omega
    have e2 : (16 * a + b) % 16 = b := by omega
    rw [e1, e2]
  simpa using this
theorem GoodK.ne {D : List (List Int)} (g : GoodK D) : ∀ k ∈ D, k ≠ [] := fun k hk e => by
  obtain ⟨a, b, _, _, h⟩ := g.ks k hk
  rw [e] at h
  cases h
structure Rw (n : Nat) (here : List Int) : Prop where
  len : here.length = n
  nd : here.Nodup
  bd : ∀ z ∈ here, 0 ≤ z ∧ z < (n : Int)
theorem rw_rng (n : Nat) : Rw n (rngI n) := by
  refine ⟨by unfold rngI; rw [List.length_map, List.length_range], ?_, fun z hz => ?_⟩
  · unfold rngI
    exact List.Pairwise.map _ (fun a b h e => h (by exact_mod_cast e)) List.nodup_range
  · obtain ⟨i, hi, rfl⟩ := List.mem_map.mp hz
    have := List.mem_range.mp hi
    omega
theorem Rw.at {n : Nat} {here : List Int} (h : Rw n here) {i : Nat} (hi : i < n) : ∃ a : Nat, a < n ∧ here.getD i 0 = (a : Int) := by
  have hm : here.getD i 0 ∈ here := by
    rw [List.getD_eq_getElem?_getD, List.getElem?_eq_getElem (by rw [h.len]; exact hi)]
    exact List.getElem_mem _
  obtain ⟨h1, h2⟩ := h.bd _ hm
  exact ⟨(here.getD i 0).toNat, by omega, by omega⟩
theorem Rw.ne {n : Nat} {here : List Int} (h : Rw n here) {i j : Nat} (hi : i < n) (hj : j < n) (ij : i ≠ j) : here.getD i 0 ≠ here.getD j 0 := by
  intro e
  rw [List.getD_eq_getElem?_getD, List.getD_eq_getElem?_getD, List.getElem?_eq_getElem (by rw [h.len]; exact hi), List.getElem?_eq_getElem (by rw [h.len]; exact hj)] at e
  exact ij ((List.getElem_inj h.nd).mp e)
def lowsD (D : List (List Int)) (a b : Int) (lows : List Int) : List (List Int) := lows.foldl (fun D z => addK (addK D [z, a]) [z, b]) D
def seeS (S : List Int × List (List Int)) (p : Nat × Nat) : List Int × List (List Int) := (swapM S.1 p.1 p.2, lowsD S.2 (S.1.getD p.1 0) (S.1.getD p.2 0) (betw S.1 p.1 p.2))
def seeM (n : Nat) (ps : List (Nat × Nat)) : List Int × List (List Int) := ps.foldl seeS (rngI n, [])
def VP (n : Nat) (p : Nat × Nat) : Prop := p.1 + 2 ≤ p.2 ∧ p.2 < n
theorem swapM_perm {ns : List Int} {i j : Nat} (h1 : i < j) (h2 : j < ns.length) : (swapM ns i j).Perm ns := by
  obtain ⟨s1, _, _, s4⟩ := split_at h1 h2
  rw [s4]
  conv => rhs; rw [s1]
  unfold rowE
  refine List.Perm.append_left _ ?_
  exact (List.perm_middle.cons _).trans ((List.Perm.swap _ _ _).trans (List.perm_middle.symm.cons _))
theorem Rw.swap {n : Nat} {here : List Int} (h : Rw n here) {p : Nat × Nat} (hp : VP n p) : Rw n (swapM here p.1 p.2) := by
  have pm := swapM_perm (ns := here) (i := p.1) (j := p.2) (by have := hp.1; omega) (by rw [h.len]; exact hp.2)
  exact ⟨by rw [pm.length_eq, h.len], pm.nodup_iff.mpr h.nd, fun z hz => h.bd z (pm.mem_iff.mp hz)⟩
theorem lows_good {n : Nat} (hn : n ≤ 16) {a b : Nat} (ha : a < n) (hb : b < n) : ∀ {lows : List Int} {D : List (List Int)}, (∀ z ∈ lows, 0 ≤ z ∧ z < (n : Int)) → GoodK D → GoodK (lowsD D (a : Int) (b : Int) lows)
  | [], D, _, g => g
  | z :: lows, D, hz, g => by
    obtain ⟨h1, h2⟩ := hz z List.mem_cons_self
    obtain ⟨m, rfl⟩ : ∃ m : Nat, z = m := ⟨z.toNat, by omega⟩
    have g1 := g.add (a := m) (b := a) (by omega) (by omega)
    have g2 := g1.add (a := m) (b := b) (by omega) (by omega)
    exact lows_good (lows := lows) hn ha hb (fun y hy => hz y (List.mem_cons_of_mem _ hy)) g2
theorem see_good {n : Nat} (hn : n ≤ 16) : ∀ {ps : List (Nat × Nat)} {S : List Int × List (List Int)}, (∀ p ∈ ps, VP n p) → Rw n S.1 → GoodK S.2 → Rw n (ps.foldl seeS S).1 ∧ GoodK (ps.foldl seeS S).2
  | [], S, _, r, g => ⟨r, g⟩
  | p :: ps, S, hp, r, g => by
    have v := hp p List.mem_cons_self
    have v1 := v.1
    have v2 := v.2
    obtain ⟨a, ha, ea⟩ := r.at (i := p.1) (by omega)
    obtain ⟨b, hb, eb⟩ := r.at (i := p.2) (by omega)
    refine see_good (ps := ps) (S := seeS S p) hn (fun q hq => hp q (List.mem_cons_of_mem _ hq)) (r.swap v) ?_
    show GoodK (lowsD S.2 (S.1.getD p.1 0) (S.1.getD p.2 0) (betw S.1 p.1 p.2))
    rw [ea, eb]
    exact lows_good hn ha hb (fun z hz => r.bd z (by unfold betw at hz; exact List.mem_of_mem_drop (List.mem_of_mem_take hz))) g
theorem seeM_good {n : Nat} (hn : n ≤ 16) {ps : List (Nat × Nat)} (hp : ∀ p ∈ ps, VP n p) : Rw n (seeM n ps).1 ∧ GoodK (seeM n ps).2 := see_good hn hp (rw_rng n) ⟨List.nodup_nil, fun _ h => nomatch h⟩
end DL
set_option Elab.async false
set_option linter.all false
set_option maxRecDepth 100000
set_option maxHeartbeats 1000000
set_option autoImplicit false
namespace DL
open PySem PySem.Spec PyProof.Rows L2
noncomputable def ft_comparisons_2 : FG := (tN 6)
noncomputable def fu_comparisons_2 : FS := (sEx (fUpd2 (fVar 3) (fTup (fCons (fVar 6) (fCons (fOp opIx (fVar 2) (fVar 4)) fNil))) (fC (.bool true)) (fTup (fCons (fVar 6) (fCons (fOp opIx (fVar 2) (fVar 5)) fNil))) (fC (.bool true))))
noncomputable def ft_comparisons_1 : FG := (tTupA 2 (tCons (tN 4) (tCons (tN 5) tNil)))
noncomputable def fu_comparisons_1 : FS := (sSq (sFr (iSeq (fSl (fVar 2) (fPart (fOp opAdd (fVar 4) (fC (.int 1)))) (fPart (fVar 5)))) ft_comparisons_2 fu_comparisons_2)
    (sSet (fCall fn_swapped false (fCons (fVar 2) (fCons (fTup (fCons (fVar 4) (fCons (fVar 5) fNil))) fNil))) (tN 2)))
noncomputable def b_comparisons : FS :=
  (sSq (sP2 2 3 (fCons (fRg1 true (fVar 0)) (fCons fDict0T fNil)))
  (sSq (sFr (iSeq (fVar 1)) ft_comparisons_1 fu_comparisons_1)
  (sRt (fSortTO (fCons (fVar 3) fNil)))))
noncomputable def fn_comparisons : Fn := mkFn 7 b_comparisons
theorem comp_low {n : Nat} (hn : n ≤ 16) {a0 a1 : Option R} {here : List Int} {i j a b : Nat} (ea : atI (zD here) (i : Int) = some (.int (a : Int))) (eb : atI (zD here) (j : Int) = some (.int (b : Int))) (ha : a < n) (hb : b < n) (hab : a ≠ b) : ∀ (lows : List Int) (D : List (List Int)) (tl : List Ct) (c : Option R), (∀ z ∈ lows, 0 ≤ z ∧ z < (n : Int)) → GoodK D →
    ∃ tl' c', forGo ft_comparisons_2 fu_comparisons_2 (zD lows) ⟨[a0, a1, some (.d (.tuple (zD here))), some (.o 0), some (.d (.int (i : Int))), some (.d (.int (j : Int))), c], .dT (tE D) :: tl⟩ = .ok .nx ⟨[a0, a1, some (.d (.tuple (zD here))), some (.o 0), some (.d (.int (i : Int))), some (.d (.int (j : Int))), c'], .dT (tE (lowsD D (a : Int) (b : Int) lows)) :: tl'⟩
  | [], D, tl, c, _, _ => ⟨tl, c, rfl⟩
  | z :: lows, D, tl, c, hz, g => by
    obtain ⟨h1, h2⟩ := hz z List.mem_cons_self
    obtain ⟨m, rfl⟩ : ∃ m : Nat, z = m := ⟨z.toNat, by omega⟩
    have g1 := g.add (a := m) (b := a) (by omega) (by omega)
    have g2 := g1.add (a := m) (b := b) (by omega) (by omega)
    obtain ⟨tl', c', e⟩ := comp_low hn (a0 := a0) (a1 := a1) ea eb ha hb hab lows _ (tl ++ [.dT (tE (addK (addK [] [(m : Int), (a : Int)]) [(m : Int), (b : Int)]))]) (some (.d (.int (m : Int)))) (fun y hy => hz y (List.mem_cons_of_mem _ hy)) g2
    refine ⟨tl', c', ?_⟩
    have hh := hash_two (z := m) (a := a) (b := b) (by omega) (by omega) (by omega) hab
    have k1 : tkeyOf (.tuple [.int (m : Int), .int (a : Int)]) = some (kR [(m : Int), (a : Int)]) := tkey_row [(m : Int), (a : Int)]
    have k2 : tkeyOf (.tuple [.int (m : Int), .int (b : Int)]) = some (kR [(m : Int), (b : Int)]) := tkey_row [(m : Int), (b : Int)]
    have ep : putP (putP [] (kR [(m : Int), (a : Int)]) (.bool true)) (kR [(m : Int), (b : Int)]) (.bool true) = tE (addK (addK [] [(m : Int), (a : Int)]) [(m : Int), (b : Int)]) := by rw [← put_tE, ← put_tE]; rfl
    have ed : ∀ (sl : List (Option R)), disp2K (tl.length + 1) ⟨sl, .dT (tE D) :: (tl ++ [.dT []])⟩ (.d (.tuple [.int (m : Int), .int (a : Int)])) (.d (.bool true)) (.d (.tuple [.int (m : Int), .int (b : Int)])) (.d (.bool true)) = .ok (.o (tl.length + 1)) ⟨sl, .dT (tE D) :: (tl ++ [.dT (putP (putP [] (kR [(m : Int), (a : Int)]) (.bool true)) (kR [(m : Int), (b : Int)]) (.bool true))])⟩ := fun sl => disp2K_of (sl := sl) (ce := .dT (tE D) :: tl) (x1 := .bool true) (x2 := .bool true) k1 k2 rfl
    rw [ep] at ed
    have l1 := g.len
    have l2 := g2.len
    have lE : (addK (addK [] [(m : Int), (a : Int)]) [(m : Int), (b : Int)]).length ≤ 256 := by
      have : GoodK (addK (addK [] [(m : Int), (a : Int)]) [(m : Int), (b : Int)]) := (GoodK.add (D := []) ⟨List.nodup_nil, fun _ h => nomatch h⟩ (a := m) (b := a) (by omega) (by omega)).add (by omega) (by omega)
      exact this.len
    obtain ⟨E, eE⟩ : ∃ E, addK (addK [] [(m : Int), (a : Int)]) [(m : Int), (b : Int)] = E := ⟨_, rfl⟩
    have tf := two_fold D [(m : Int), (a : Int)] [(m : Int), (b : Int)]
    rw [eE] at hh ed lE tf e
    have eu : ∀ (sl : List (Option R)), updK ⟨sl, .dT (tE D) :: (tl ++ [.dT (tE E)])⟩ (.o 0) (.o (tl.length + 1)) = .ok (.d .none) ⟨sl, .dT (tE (addK (addK D [(m : Int), (a : Int)]) [(m : Int), (b : Int)])) :: (tl ++ [.dT (tE E)])⟩ := fun sl => by
      have e0 : (Ct.dT (tE D) :: (tl ++ [.dT (tE E)]))[0]? = some (Ct.dT (tE D)) := rfl
      have e1 : (Ct.dT (tE D) :: (tl ++ [.dT (tE E)]))[tl.length + 1]? = some (Ct.dT (tE E)) := by simp
      simp only [updK, e0, e1]
      rw [if_pos ⟨by omega, by rw [tE_len, tE_len]; omega, .inr hh⟩, putAll_tE, tf]
      rfl
    have st : forSt ft_comparisons_2 fu_comparisons_2 (.int (m : Int)) ⟨[a0, a1, some (.d (.tuple (zD here))), some (.o 0), some (.d (.int (i : Int))), some (.d (.int (j : Int))), c], .dT (tE D) :: tl⟩ = .ok .nx ⟨[a0, a1, some (.d (.tuple (zD here))), some (.o 0), some (.d (.int (i : Int))), some (.d (.int (j : Int))), some (.d (.int (m : Int)))], .dT (tE (addK (addK D [(m : Int), (a : Int)]) [(m : Int), (b : Int)])) :: (tl ++ [.dT (tE E)])⟩ := by
      simp! [ft_comparisons_2, fu_comparisons_2, fUpd2_ap, isDT, fDisp2T_ap, ea, eb, ed, eu]
    show forGo _ _ (.int (m : Int) :: zD lows) _ = _
    rw [forGo_cons, st, bind_ok]
    exact e
theorem comp_go {n : Nat} (hn : n ≤ 16) (t : Bool) (a0 a1 : Option R) : ∀ (ps : List (Nat × Nat)) (S : List Int × List (List Int)) (tl : List Ct) (c d e : Option R), Rw n S.1 → GoodK S.2 → (∀ p ∈ ps, VP n p) → ∃ tl' c' d' e', forGo ft_comparisons_1 fu_comparisons_1 (ps.map fun p => emP t (castP p)) ⟨[a0, a1, some (.d (.tuple (zD S.1))), some (.o 0), c, d, e], .dT (tE S.2) :: tl⟩ = .ok .nx ⟨[a0, a1, some (.d (.tuple (zD (ps.foldl seeS S).1))), some (.o 0), c', d', e'], .dT (tE (ps.foldl seeS S).2) :: tl'⟩
  | [], S, tl, c, d, e, _, _, _ => ⟨tl, c, d, e, rfl⟩
  | p :: ps, S, tl, c, d, e, r, g, hp => by
    have v := hp p List.mem_cons_self
    have v1 := v.1
    have v2 := v.2
    obtain ⟨a, ha, ea⟩ := r.at (i := p.1) (by omega)
    obtain ⟨b, hb, eb⟩ := r.at (i := p.2) (by omega)
    have hab : a ≠ b := fun z => r.ne (i := p.1) (j := p.2) (by omega) (by omega) (by omega) (by rw [ea, eb, z])
    have a1' := at_getD (ns := S.1) (i := p.1) (by rw [r.len]; omega)
    have a2' := at_getD (ns := S.1) (i := p.2) (by rw [r.len]; omega)
    rw [ea] at a1'
    rw [eb] at a2'
    have hb' : ∀ z ∈ betw S.1 p.1 p.2, 0 ≤ z ∧ z < (n : Int) := fun z hz => r.bd z (by unfold betw at hz; exact List.mem_of_mem_drop (List.mem_of_mem_take hz))
    obtain ⟨tl1, c1, e1⟩ := comp_low hn (a0 := a0) (a1 := a1) a1' a2' ha hb hab (betw S.1 p.1 p.2) S.2 tl e hb' g
    have sw := swapped_ok (ns := S.1) (x := .tuple (zD S.1)) (i := p.1) (j := p.2) sqT (by rw [r.len]; omega) (by omega) (by rw [r.len]; exact v2)
    have sw : fn_swapped [.d (.tuple (zD S.1)), .d (.tuple [.int ((p.1 : Nat) : Int), .int ((p.2 : Nat) : Int)])] [] = _ := sw
    have c2 : cut (zD S.1) (some (((p.1 : Nat) : Int) + 1)) (some ((p.2 : Nat) : Int)) = zD (betw S.1 p.1 p.2) := by rw [cut_map, cut_betw (by omega) (by rw [r.len]; exact v2)]
    have gg := lows_good hn ha hb hb' g
    obtain ⟨tl', c', d', e', ee⟩ := comp_go hn t a0 a1 ps (seeS S p) tl1 (some (.d (.int ((p.1 : Nat) : Int)))) (some (.d (.int ((p.2 : Nat) : Int)))) c1 (r.swap v) (by
      show GoodK (lowsD S.2 (S.1.getD p.1 0) (S.1.getD p.2 0) (betw S.1 p.1 p.2))
      rw [ea, eb]; exact gg) (fun q hq => hp q (List.mem_cons_of_mem _ hq))
    refine ⟨tl', c', d', e', ?_⟩
    have st : forSt ft_comparisons_1 fu_comparisons_1 (emP t (castP p)) ⟨[a0, a1, some (.d (.tuple (zD S.1))), some (.o 0), c, d, e], .dT (tE S.2) :: tl⟩ = .ok .nx ⟨[a0, a1, some (.d (.tuple (zD (seeS S p).1))), some (.o 0), some (.d (.int ((p.1 : Nat) : Int))), some (.d (.int ((p.2 : Nat) : Int))), c1], .dT (tE (seeS S p).2) :: tl1⟩ := by
      have ez : tE (seeS S p).2 = tE (lowsD S.2 (a : Int) (b : Int) (betw S.1 p.1 p.2)) := by
        show tE (lowsD S.2 (S.1.getD p.1 0) (S.1.getD p.2 0) (betw S.1 p.1 p.2)) = _
        rw [ea, eb]
      have ey : (seeS S p).1 = swapM S.1 p.1 p.2 := rfl
      rw [ez, ey]
      cases t <;> simp! [emP, pD, pL, castP, ft_comparisons_1, fu_comparisons_1, c2, e1, call_of sw]
    rw [List.map_cons, forGo_cons, st, bind_ok]
    exact ee
theorem comparisons_ok {n : Nat} {z : PyData} {ps : List (Nat × Nat)} (t : Bool) (hz : Sq z (ps.map fun p => emP t (castP p))) (hn : n ≤ 16) (hp : ∀ p ∈ ps, VP n p) : fn_comparisons [.d (.int (n : Int)), .d z] [] = .ok (.newC (.lst ((srtL (seeM n ps).2).map tupD))) [] := by
  obtain ⟨tl, c, d, e, ee⟩ := comp_go hn t (some (.d (.int (n : Int)))) (some (.d z)) ps (rngI n, []) [] none none none (rw_rng n) ⟨List.nodup_nil, fun _ h => nomatch h⟩ hp
  have rg := fun g => rgT true n (by omega) g
  simp only [if_true] at rg
  have gd := (seeM_good hn hp).2
  have so : ∀ (sl : List (Option R)), clSortT ⟨sl, .dT (tE (seeM n ps).2) :: tl⟩ [.o 0] = some (.d (.list ((srtL (seeM n ps).2).map tupD))) := fun sl => clSortT_d _ _ rfl (tE_keys _) (.inr gd.ne)
  have ee : forGo ft_comparisons_1 fu_comparisons_1 (ps.map fun p => emP t (castP p)) ⟨[some (.d (.int (n : Int))), some (.d z), some (.d (.tuple (zD (rngI n)))), some (.o 0), none, none, none], [.dT []]⟩ = .ok .nx ⟨[some (.d (.int (n : Int))), some (.d z), some (.d (.tuple (zD (seeM n ps).1))), some (.o 0), c, d, e], .dT (tE (seeM n ps).2) :: tl⟩ := ee
  have gl : ∀ (x : Ct), (tl ++ [x])[tl.length]? = some x := fun x => by simp
  rcases hz with rfl | rfl <;> simp! [gl, fn_comparisons, b_comparisons, fRg1_ap, rg, ee, fSortTO_ap, so, sortTOK_of, Nat.zero_le]
end DL
set_option Elab.async false
set_option linter.all false
set_option maxRecDepth 100000
set_option maxHeartbeats 1000000
set_option autoImplicit false
namespace DL
open PySem PySem.Spec PyProof.Rows L2
noncomputable def ct_higher_of_1 : FG := (tN 5)
noncomputable def cc_higher_of_1 : FT := fYes
noncomputable def cf_higher_of_1 : FE := (fLstO fNil)
noncomputable def ft_higher_of_1 : FG := (tTupA 2 (tCons (tN 3) (tCons (tN 4) tNil)))
noncomputable def fu_higher_of_1 : FS := (sEx (fMt mtAppend (fOp opIxL (fVar 2) (fVar 3)) (fCons (fVar 4) fNil)))
noncomputable def b_higher_of : FS :=
  (sSq (sSet (fLcL (iRg1 (fCons (fVar 0) fNil)) ct_higher_of_1 cc_higher_of_1 cf_higher_of_1 [5]) (tN 2))
  (sSq (sFr (iSeq (fCall fn_comparisons false (fCons (fVar 0) (fCons (fVar 1) fNil)))) ft_higher_of_1 fu_higher_of_1)
  (sRt (fFrzL (fVar 2)))))
noncomputable def fn_higher_of : Fn := mkFn 6 b_higher_of
def selM (a b : Nat) (p : Int) (P : List (List Int)) : List Int := (P.filter fun k => decide (k.getD a 0 = p)).map fun k => k.getD b 0
def tabM (a b : Nat) (n : Nat) (P : List (List Int)) : List (List Int) := (List.range n).map fun (p : Nat) => selM a b (p : Int) P
theorem lcGoL_rep {i : Nat} {sl : List (Option R)} : ∀ (ds : List PyData) (acc : List Nat) (ce : List Ct), acc.length + ds.length ≤ 100000 → lcGoL (tN i) fYes (fLstO fNil) sl [i] ds acc ce = .ok (acc ++ (List.range' ce.length ds.length)) ⟨sl, ce ++ List.replicate ds.length (.lst [])⟩
  | [], acc, ce, _ => by simp [lcGoL]
  | d :: ds, acc, ce, hl => by
    rw [List.length_cons] at hl
    have ih := lcGoL_rep (i := i) (sl := sl) ds (acc ++ [ce.length]) (ce ++ [.lst []]) (by rw [List.length_append]; simp only [List.length_cons, List.length_nil]; omega)
    unfold lcGoL
    rw [if_pos (by omega)]
    have e1 : fLstO fNil = fun g => (.ok (.o g.ce.length) { g with ce := g.ce ++ [.lst []] } : Out R) := by
      funext g
      simp! []
    rw [e1] at ih ⊢
    simp! []
    rw [ih, List.length_append, List.append_assoc, List.append_assoc]
    rfl
theorem frzs_range : ∀ (ds : List (List PyData)) (pre : List Ct) (sl : List (Option R)), frzs ((List.range' pre.length ds.length).map R.o) ⟨sl, pre ++ ds.map Ct.lst⟩ = some (ds.map PyData.list, ⟨sl, pre ++ ds.map fun _ => Ct.dead⟩)
  | [], pre, sl => by simp [frzs]
  | d :: ds, pre, sl => by
    have ih := frzs_range ds (pre ++ [.dead]) sl
    rw [List.length_append] at ih
    have e1 : (pre ++ (d :: ds).map Ct.lst)[pre.length]? = some (.lst d) := by simp
    have e2 : (pre ++ (d :: ds).map Ct.lst).set pre.length .dead = (pre ++ [.dead]) ++ ds.map Ct.lst := by simp
    rw [List.length_cons, List.range'_succ, List.map_cons]
    unfold frzs
    simp only [frzR, e1, putC, e2]
    rw [show pre.length + 1 = pre.length + [Ct.dead].length from rfl, ih]
    simp
theorem tab_step {a b n : Nat} {P : List (List Int)} {k : List Int} {m : Nat} (hm : k.getD a 0 = (m : Int)) (hn : m < n) :
    ((tabM a b n P).map fun l => Ct.lst (zD l)).set m (.lst (zD (selM a b (m : Int) P) ++ [.int (k.getD b 0)])) = (tabM a b n (P ++ [k])).map fun l => Ct.lst (zD l) := by
  unfold tabM
  rw [List.map_map, List.map_map]
  refine List.ext_getElem? fun i => ?_
  by_cases hi : i = m
  · subst hi
    rw [List.getElem?_set_self (by rw [List.length_map, List.length_range]; exact hn), List.getElem?_map, List.getElem?_range hn]
    show _ = some (Ct.lst (zD (selM a b (i : Int) (P ++ [k]))))
    have : selM a b (i : Int) (P ++ [k]) = selM a b (i : Int) P ++ [k.getD b 0] := by
      unfold selM
      rw [List.filter_append, List.map_append]
      congr 1
      rw [List.filter_cons, if_pos (decide_eq_true hm)]
      rfl
    rw [this]
    unfold zD
    rw [List.map_append]
    rfl
  · rw [List.getElem?_set_ne (Ne.symm hi), List.getElem?_map, List.getElem?_map]
    by_cases hl : i < n
    · rw [List.getElem?_range hl]
      show some (Ct.lst (zD (selM a b (i : Int) P))) = some (Ct.lst (zD (selM a b (i : Int) (P ++ [k]))))
      have : selM a b (i : Int) (P ++ [k]) = selM a b (i : Int) P := by
        unfold selM
        rw [List.filter_append, List.map_append]
        have : [k].filter (fun k => decide (k.getD a 0 = (i : Int))) = [] := by
          rw [List.filter_cons, if_neg (by
            rw [decide_eq_true_eq, hm]
            intro z
            exact hi (by omega))]
          rfl
        rw [this]
        simp
      rw [this]
    · rw [List.getElem?_eq_none (by rw [List.length_range]; omega)]
      rfl
theorem tab_at {a b n : Nat} {P : List (List Int)} {m : Nat} (hn : m < n) : ((tabM a b n P).map fun l => Ct.lst (zD l))[m]? = some (.lst (zD (selM a b (m : Int) P))) := by
  unfold tabM
  rw [List.map_map, List.getElem?_map, List.getElem?_range hn]
  rfl
theorem sel_len (a b : Nat) (p : Int) (P : List (List Int)) : (selM a b p P).length ≤ P.length := by
  unfold selM
  rw [List.length_map]
  exact List.length_filter_le _ _
theorem lows_bd {n : Nat} {a b : Nat} (ha : a < n) (hb : b < n) : ∀ {lows : List Int} {D : List (List Int)}, (∀ z ∈ lows, 0 ≤ z ∧ z < (n : Int)) → (∀ k ∈ D, ∃ a b : Nat, a < n ∧ b < n ∧ k = [(a : Int), (b : Int)]) → ∀ k ∈ lowsD D (a : Int) (b : Int) lows, ∃ a b : Nat, a < n ∧ b < n ∧ k = [(a : Int), (b : Int)]
  | [], D, _, g => g
  | z :: lows, D, hz, g => by
    obtain ⟨h1, h2⟩ := hz z List.mem_cons_self
    obtain ⟨m, rfl⟩ : ∃ m : Nat, z = m := ⟨z.toNat, by omega⟩
    refine lows_bd (lows := lows) ha hb (fun y hy => hz y (List.mem_cons_of_mem _ hy)) fun k hk => ?_
    rcases mem_addK.mp hk with h | h
    · rcases mem_addK.mp h with h | h
      · exact g k h
      · exact ⟨m, a, by omega, ha, h⟩
    · exact ⟨m, b, by omega, hb, h⟩
theorem see_bd {n : Nat} : ∀ {ps : List (Nat × Nat)} {S : List Int × List (List Int)}, (∀ p ∈ ps, VP n p) → Rw n S.1 → (∀ k ∈ S.2, ∃ a b : Nat, a < n ∧ b < n ∧ k = [(a : Int), (b : Int)]) → ∀ k ∈ (ps.foldl seeS S).2, ∃ a b : Nat, a < n ∧ b < n ∧ k = [(a : Int), (b : Int)]
  | [], S, _, r, g => g
  | p :: ps, S, hp, r, g => by
    have v := hp p List.mem_cons_self
    have v1 := v.1
    have v2 := v.2
    obtain ⟨a, ha, ea⟩ := r.at (i := p.1) (by omega)
    obtain ⟨b, hb, eb⟩ := r.at (i := p.2) (by omega)
    refine see_bd (ps := ps) (S := seeS S p) (fun q hq => hp q (List.mem_cons_of_mem _ hq)) (r.swap v) ?_
    show ∀ k ∈ lowsD S.2 (S.1.getD p.1 0) (S.1.getD p.2 0) (betw S.1 p.1 p.2), _
    rw [ea, eb]
    exact lows_bd ha hb (fun z hz => r.bd z (by unfold betw at hz; exact List.mem_of_mem_drop (List.mem_of_mem_take hz))) g
def insL (k : List Int) : List (List Int) → List (List Int)
  | [] => [k]
  | x :: xs => if leL k x = true then k :: x :: xs else x :: insL k xs
def isL (l : List (List Int)) : List (List Int) := l.foldr insL []
theorem insL_perm (k : List Int) : ∀ l : List (List Int), (insL k l).Perm (k :: l)
  | [] => .refl _
  | x :: xs => by
    unfold insL
    split
    · exact .refl _
    · exact ((insL_perm k xs).cons x).trans (.swap k x xs)
theorem insL_sorted (k : List Int) : ∀ l : List (List Int), l.Pairwise (fun a b => leL a b = true) → (insL k l).Pairwise (fun a b => leL a b = true)
  | [], _ => List.pairwise_singleton _ _
  | x :: xs, h => by
    unfold insL
    obtain ⟨h1, h2⟩ := List.pairwise_cons.mp h
    split
    · rename_i e
      exact List.pairwise_cons.mpr ⟨fun z hz => (List.mem_cons.mp hz).elim (fun q => q ▸ e) fun q => leL_trans _ _ _ e (h1 z q), h⟩
    · rename_i e
      have e2 : leL x k = true := by
        have := leL_total k x
        rw [Bool.or_eq_true] at this
        exact this.elim (fun q => absurd q e) id
      refine List.pairwise_cons.mpr ⟨fun z hz => ?_, insL_sorted k xs h2⟩
      rcases List.mem_cons.mp ((insL_perm k xs).mem_iff.mp hz) with q | q
      · exact q ▸ e2
      · exact h1 z q
theorem isL_ok : ∀ l : List (List Int), (isL l).Perm l ∧ (isL l).Pairwise (fun a b => leL a b = true)
  | [] => ⟨.refl _, List.Pairwise.nil⟩
  | k :: l => by
    obtain ⟨h1, h2⟩ := isL_ok l
    exact ⟨(insL_perm k (isL l)).trans (h1.cons k), insL_sorted k _ h2⟩
theorem srtL_isL (l : List (List Int)) : srtL l = isL l := srtL_eq (isL_ok l).1 (isL_ok l).2
def prsM (n : Nat) (ps : List (Nat × Nat)) : List (List Int) := isL (seeM n ps).2
theorem prs_srt (n : Nat) (ps : List (Nat × Nat)) : prsM n ps = srtL (seeM n ps).2 := (srtL_isL _).symm
theorem prs_bd {n : Nat} {ps : List (Nat × Nat)} (hp : ∀ p ∈ ps, VP n p) : ∀ k ∈ prsM n ps, ∃ a b : Nat, a < n ∧ b < n ∧ k = [(a : Int), (b : Int)] := fun k hk =>
  see_bd hp (rw_rng n) (fun k h => by cases h) k ((srtL_perm _).mem_iff.mp (prs_srt n ps ▸ hk))
theorem higher_ok {n : Nat} {z : PyData} {ps : List (Nat × Nat)} (t : Bool) (hz : Sq z (ps.map fun p => emP t (castP p))) (hn : n ≤ 16) (hp : ∀ p ∈ ps, VP n p) : fn_higher_of [.d (.int (n : Int)), .d z] [] = .ok (.dat (.list ((tabM 0 1 n (prsM n ps)).map fun l => .list (zD l)))) [] := by
  have cm := comparisons_ok t hz hn hp
  have gd := (seeM_good hn hp).2
  have gP := prs_bd hp
  have lP : (prsM n ps).length ≤ 256 := by rw [prs_srt, (srtL_perm _).length_eq]; exact gd.len
  rw [← prs_srt] at cm
  obtain ⟨P, eP⟩ : ∃ P, prsM n ps = P := ⟨_, rfl⟩
  rw [eP] at cm gP lP ⊢
  have rk : rOk (n : Int) = true := rOk_of (by omega) (by omega)
  have er : rng 0 n = (List.range n).map (fun (i : Nat) => PyData.int (i : Int)) := rng0 n
  have l1 := lcGoL_rep (i := 5) (sl := [some (.d (.int (n : Int))), some (.d z), none, none, none, none]) (rng 0 n) [] [] (by rw [er, List.length_map, List.length_range]; simp; omega)
  rw [er, List.length_map, List.length_range, List.nil_append, List.nil_append, ← er] at l1
  have l1 : lcGoL ct_higher_of_1 cc_higher_of_1 cf_higher_of_1 [some (.d (.int (n : Int))), some (.d z), none, none, none, none] [5] (rng 0 n) [] [] = .ok (List.range' 0 n) ⟨_, List.replicate n (.lst [])⟩ := l1
  have e0 : List.replicate n (Ct.lst []) = (tabM 0 1 n []).map fun l => Ct.lst (zD l) := by
    unfold tabM
    rw [List.map_map]
    refine List.ext_getElem? fun i => ?_
    rw [List.getElem?_replicate, List.getElem?_map]
    by_cases h : i < n
    · rw [List.getElem?_range h, if_pos h]; rfl
    · rw [List.getElem?_eq_none (by rw [List.length_range]; omega), if_neg h]; rfl
  rw [e0] at l1
  obtain ⟨g', f, a3, a4, rfl⟩ := forGo_inv (emb := tupD) (t := ft_higher_of_1) (u := fu_higher_of_1) (xs := P) (g := ⟨[some (.d (.int (n : Int))), some (.d z), some (.l (List.range' 0 n)), none, none, none], (tabM 0 1 n []).map fun l => Ct.lst (zD l)⟩)
    (fun i g => ∃ a3 a4, g = ⟨[some (.d (.int (n : Int))), some (.d z), some (.l (List.range' 0 n)), a3, a4, none], (tabM 0 1 n (P.take i)).map fun l => Ct.lst (zD l)⟩) ⟨none, none, rfl⟩ (fun i k g hk hI => by
      obtain ⟨a3, a4, rfl⟩ := hI
      obtain ⟨a, b, ha, hb, rfl⟩ := gP k (List.mem_of_getElem? hk)
      have et : P.take (i + 1) = P.take i ++ [[(a : Int), (b : Int)]] := by rw [List.take_succ, hk]; rfl
      have ia : atI (List.range' 0 n) (a : Int) = some a := atI_nat (by rw [List.getElem?_range' ha]; simp)
      have ta := tab_at (a := 0) (b := 1) (P := P.take i) ha
      have ts := tab_step (a := 0) (b := 1) (n := n) (P := P.take i) (k := [(a : Int), (b : Int)]) (m := a) rfl ha
      have sl := sel_len 0 1 (a : Int) (P.take i)
      have lt : (selM 0 1 (a : Int) (P.take i)).length < 100000 := by rw [List.length_take] at sl; omega
      refine ⟨_, .inl ?_, some (.d (.int (a : Int))), some (.d (.int (b : Int))), rfl⟩
      rw [et, ← ts]
      obtain ⟨C, eC⟩ : ∃ C, ((tabM 0 1 n (P.take i)).map fun l => Ct.lst (zD l)) = C := ⟨_, rfl⟩
      rw [eC] at ta ⊢
      have tk : tupD [(a : Int), (b : Int)] = .tuple [.int (a : Int), .int (b : Int)] := rfl
      have gb : [(a : Int), (b : Int)].getD 1 0 = (b : Int) := rfl
      rw [tk, gb]
      simp! [ft_higher_of_1, fu_higher_of_1, ia, ta, lt])
  rw [List.take_length] at f
  have fr := frzs_range ((tabM 0 1 n P).map zD) [] [some (.d (.int (n : Int))), some (.d z), some (.l (List.range' 0 n)), a3, a4, none]
  have ln : ((tabM 0 1 n P).map zD).length = n := by unfold tabM; rw [List.length_map, List.length_map, List.length_range]
  rw [ln, List.map_map, List.map_map, List.nil_append] at fr
  have fr := frzLK_of fr
  have fr : frzLK (.l (List.range' 0 n)) ⟨[some (.d (.int (n : Int))), some (.d z), some (.l (List.range' 0 n)), a3, a4, none], (tabM 0 1 n P).map fun l => Ct.lst (zD l)⟩ = .ok (.d (.list ((tabM 0 1 n P).map fun l => .list (zD l)))) _ := fr
  simp! [fn_higher_of, b_higher_of, fLcL_ap, rk, Int.toNat_natCast, l1, call_lst cm, f, fFrzL_ap, fr]
end DL
set_option Elab.async false
set_option linter.all false
set_option maxRecDepth 100000
set_option maxHeartbeats 1000000
set_option autoImplicit false
namespace DL
open PySem PySem.Spec PyProof.Rows L2
noncomputable def ct_sorted_down_2 : FG := (tN 7)
noncomputable def cc_sorted_down_2 : FT := fYes
noncomputable def cf_sorted_down_2 : FE := (fOp opIn (fVar 7) (fVar 4))
noncomputable def ct_sorted_down_1 : FG := (tN 6)
noncomputable def cc_sorted_down_1 : FT := (fNotT (fTst (fCl clAny (fCons (fLc (iSeq (fOp opIx (fVar 2) (fVar 6))) ct_sorted_down_2 cc_sorted_down_2 cf_sorted_down_2 [7]) fNil))))
noncomputable def cf_sorted_down_1 : FE := (fVar 6)
noncomputable def wt_sorted_down_1 : FT := (fTst (fC (.bool true)))
noncomputable def wu_sorted_down_1 : FS := (sSq (sSet (fLcN (iSeq (fVar 4)) ct_sorted_down_1 cc_sorted_down_1 cf_sorted_down_1 [6]) (tN 5))
    (sSq (sIte (fTst (fOp opEq (fCl clLen (fCons (fVar 5) fNil)) (fC (.int 0)))) (sRt (fTupF (fCons (fVar 3) (fCons (fVar 4) fNil)))) sNx)
    (sSq (sEx (fMt mtAppend (fVar 3) (fCons (fOp opIx (fVar 5) (fNeg (fC (.int 1)))) fNil)))
    (sEx (fMt mtRemove (fVar 4) (fCons (fOp opIx (fVar 5) (fNeg (fC (.int 1)))) fNil))))))
noncomputable def b_sorted_down : FS :=
  (sSq (sPk [2, 3, 4] (fCons (fCall fn_higher_of false (fCons (fVar 0) (fCons (fVar 1) fNil))) (fCons (fLstO fNil) (fCons (fRgO1 (fVar 0)) fNil))))
  (sWh wt_sorted_down_1 wu_sorted_down_1))
noncomputable def fn_sorted_down : Fn := mkFn 8 b_sorted_down
def readyM (ab : List (List Int)) (left : List Int) : List Int := left.filter fun p => !((ab.getD p.toNat []).any fun o => decide (o ∈ left))
def sdM (ab : List (List Int)) : Nat → List Int → List Int → List Int × List Int
  | 0, found, left => (found, left)
  | k + 1, found, left => match (readyM ab left).getLast? with
    | none => (found, left)
    | some p => sdM ab k (found ++ [p]) (left.erase p)
theorem any_bools (l : List Int) (f : Int → Bool) : (l.map fun o => PyData.bool (f o)) = (l.map f).map PyData.bool := by rw [List.map_map]; rfl
theorem ready_eval {n : Nat} {ab : List (List Int)} {left : List Int} (hl : ab.length = n) (hb : ∀ z ∈ left, 0 ≤ z ∧ z < (n : Int)) (hn : n ≤ 16) (l16 : left.length ≤ 16) (la : ∀ l ∈ ab, l.length ≤ 300) (a0 a1 a3 a5 : Option R) (ce : List Ct) :
    lcGo ct_sorted_down_1 cc_sorted_down_1 cf_sorted_down_1 [a0, a1, some (.d (.list (ab.map fun l => .list (zD l)))), a3, some (.d (.list (zD left))), a5, none, none] [6] (zD left) [] ce = .ok (zD (readyM ab left)) ⟨[a0, a1, some (.d (.list (ab.map fun l => .list (zD l)))), a3, some (.d (.list (zD left))), a5, none, none], ce⟩ := by
  have s1 := lcGo_pure (emb := PyData.int) (t := ct_sorted_down_1) (c := cc_sorted_down_1) (f := cf_sorted_down_1) (sl := [a0, a1, some (.d (.list (ab.map fun l => .list (zD l)))), a3, some (.d (.list (zD left))), a5, none, none]) (ws := [6]) (ce := ce) (fun p => !((ab.getD p.toNat []).any fun o => decide (o ∈ left))) PyData.int left [] (by simp; omega) (fun p hp => by
    obtain ⟨h1, h2⟩ := hb p hp
    obtain ⟨m, rfl⟩ : ∃ m : Nat, p = m := ⟨p.toNat, by omega⟩
    have hm : m < ab.length := by omega
    have ia : atI (ab.map fun l => PyData.list (zD l)) (m : Int) = some (.list (zD (ab.getD m []))) := atI_nat (by rw [List.getElem?_map, List.getD_eq_getElem?_getD, List.getElem?_eq_getElem hm]; rfl)
    have le : (ab.getD m []).length ≤ 300 := la _ (by rw [List.getD_eq_getElem?_getD, List.getElem?_eq_getElem hm]; exact List.getElem_mem hm)
    have ei : ∀ g (z : Int), inB g (.d (.int z)) (.d (.list (zD left))) = some (decide (z ∈ left)) := fun g z => inB_sq sqL g
    have s2 := lcGo_map (emb := PyData.int) (t := ct_sorted_down_2) (c := cc_sorted_down_2) (f := cf_sorted_down_2) (sl := [a0, a1, some (.d (.list (ab.map fun l => .list (zD l)))), a3, some (.d (.list (zD left))), a5, some (.d (.int (m : Int))), none]) (ws := [7]) (ce := ce) (fun o => PyData.bool (decide (o ∈ left))) (xs := ab.getD m []) (by omega) (fun o _ => by
      simp! [lcSt, ct_sorted_down_2, cc_sorted_down_2, cf_sorted_down_2, ei])
    rw [any_bools] at s2
    have s2 : lcGo ct_sorted_down_2 cc_sorted_down_2 cf_sorted_down_2 [a0, a1, some (.d (.list (ab.map fun l => .list (zD l)))), a3, some (.d (.list (zD left))), a5, some (.d (.int (m : Int))), none] [7] (zD (ab.getD m [])) [] ce = _ := s2
    have et : ((m : Int)).toNat = m := by omega
    have ea : ((ab.getD m []).map fun o => decide (o ∈ left)).any id = (ab.getD m []).any fun o => decide (o ∈ left) := by rw [List.any_map]; rfl
    rw [et]
    obtain ⟨L, eL⟩ : ∃ L, (ab.map fun l => PyData.list (zD l)) = L := ⟨_, rfl⟩
    obtain ⟨M, eM⟩ : ∃ M, ab.getD m [] = M := ⟨_, rfl⟩
    rw [eL] at ia s2 ⊢
    rw [eM] at ia s2 ea ⊢
    cases q : (M.any fun o => decide (o ∈ left)) with
    | true => simp! [lcSt, ct_sorted_down_1, cc_sorted_down_1, cf_sorted_down_1, ia, s2, ea, q]
    | false => simp! [lcSt, ct_sorted_down_1, cc_sorted_down_1, cf_sorted_down_1, ia, s2, ea, q])
  rw [List.nil_append] at s1
  exact s1
theorem all_sc (l : List Int) : (zD l).all isSc = true := by unfold zD; rw [List.all_map, List.all_eq_true]; intro _ _; rfl
theorem last_at (l : List Int) (p : Int) (h : l.getLast? = some p) : atI (zD l) (-1) = some (.int p) := by
  obtain ⟨ys, rfl⟩ := List.getLast?_eq_some_iff.mp h
  have : zD (ys ++ [p]) = zD ys ++ [.int p] := by unfold zD; rw [List.map_append]; rfl
  rw [this]
  exact atI_m1 ..
theorem sd_go {n : Nat} {ab : List (List Int)} (hl : ab.length = n) (hn : n ≤ 16) (la : ∀ l ∈ ab, l.length ≤ 300) (a0 a1 : Option R) : ∀ (k : Nat) (found left : List Int) (a5 : Option R), left.length < k → left.length ≤ 16 → found.length + left.length ≤ 100 → (∀ z ∈ left, 0 ≤ z ∧ z < (n : Int)) →
    ∃ g, sWh wt_sorted_down_1 wu_sorted_down_1 ⟨[a0, a1, some (.d (.list (ab.map fun l => .list (zD l)))), some (.o 0), some (.o 1), a5, none, none], [.lst (zD found), .lst (zD left)]⟩ = .ok (.rt (.d (.tuple [.list (zD (sdM ab k found left).1), .list (zD (sdM ab k found left).2)]))) g
  | 0, found, left, a5, h, _, _, _ => absurd h (by omega)
  | k + 1, found, left, a5, h, l16, lf, hb => by
    have re := fun (a0 a1 a5 : Option R) => ready_eval hl hb hn l16 la a0 a1 (some (.d (.list (zD found)))) a5 [.dead, .dead]
    have gl : ∃ b0 b1 b5, gLoan ⟨[a0, a1, some (.d (.list (ab.map fun l => .list (zD l)))), some (.o 0), some (.o 1), a5, none, none], [.lst (zD found), .lst (zD left)]⟩ = ⟨[b0, b1, some (.d (.list (ab.map fun l => .list (zD l)))), some (.d (.list (zD found))), some (.d (.list (zD left))), b5, none, none], [.dead, .dead]⟩ := ⟨_, _, _, rfl⟩
    obtain ⟨b0, b1, b5, gl⟩ := gl
    have re := re b0 b1 b5
    obtain ⟨R1, eR⟩ : ∃ R1, readyM ab left = R1 := ⟨_, rfl⟩
    rw [eR] at re
    obtain ⟨L, eL⟩ : ∃ L, (ab.map fun l => PyData.list (zD l)) = L := ⟨_, rfl⟩
    rw [eL] at gl re ⊢
    have sc := all_sc R1
    have lr : R1.length ≤ left.length := by rw [← eR]; exact List.length_filter_le _ _
    cases hr : R1.getLast? with
    | none =>
      have e1 : sdM ab (k + 1) found left = (found, left) := by
        show (match (readyM ab left).getLast? with
          | none => (found, left)
          | some p => sdM ab k (found ++ [p]) (left.erase p)) = _
        rw [eR, hr]
      rw [e1]
      have : R1 = [] := List.getLast?_eq_none_iff.mp hr
      subst this
      rw [sWh_step]
      refine ⟨⟨[a0, a1, some (.d (.list L)), some (.o 0), some (.o 1), some (.d (.list [])), none, none], [.dead, .dead]⟩, ?_⟩
      have re : lcGo ct_sorted_down_1 cc_sorted_down_1 cf_sorted_down_1 [b0, b1, some (.d (.list L)), some (.d (.list (zD found))), some (.d (.list (zD left))), b5, none, none] [6] (zD left) [] [.dead, .dead] = .ok [] _ := re
      have sc : lcNK ⟨[a0, a1, some (.d (.list L)), some (.o 0), some (.o 1), a5, none, none], [.lst (zD found), .lst (zD left)]⟩ (.ok (.d (.list [])) ⟨[b0, b1, some (.d (.list L)), some (.d (.list (zD found))), some (.d (.list (zD left))), b5, none, none], [.dead, .dead]⟩) = _ := lcNK_of _ _ rfl
      have z0 : ((0 : Nat) : Int) = 0 := rfl
      simp! [wt_sorted_down_1, wu_sorted_down_1, fLcN_ap, gl, re, sc, frzs, frzR, z0]
    | some p =>
      have e1 : sdM ab (k + 1) found left = sdM ab k (found ++ [p]) (left.erase p) := by
        show (match (readyM ab left).getLast? with
          | none => (found, left)
          | some p => sdM ab k (found ++ [p]) (left.erase p)) = _
        rw [eR, hr]
      have pm : p ∈ R1 := List.mem_of_getLast? hr
      have pl : p ∈ left := by rw [← eR] at pm; exact (List.mem_filter.mp pm).1
      have le : (left.erase p).length = left.length - 1 := List.length_erase_of_mem pl
      have l0 : 0 < left.length := List.length_pos_of_mem pl
      have l1 : 0 < R1.length := List.length_pos_of_mem pm
      obtain ⟨g, ih⟩ := sd_go hl hn la a0 a1 k (found ++ [p]) (left.erase p) (some (.d (.list (zD R1)))) (by omega) (by omega) (by rw [List.length_append]; simp only [List.length_cons, List.length_nil]; omega) (fun z hz => hb z (List.mem_of_mem_erase hz))
      rw [← e1, eL] at ih
      refine ⟨g, ?_⟩
      rw [← ih, sWh_step]
      have at1 := last_at R1 p hr
      have zf : zD (found ++ [p]) = zD found ++ [.int p] := by unfold zD; rw [List.map_append]; rfl
      rw [zf]
      have sc := lcNK_of ⟨[a0, a1, some (.d (.list L)), some (.o 0), some (.o 1), a5, none, none], [.lst (zD found), .lst (zD left)]⟩ ⟨[b0, b1, some (.d (.list L)), some (.d (.list (zD found))), some (.d (.list (zD left))), b5, none, none], [.dead, .dead]⟩ sc
      have rm := fun (sl : List (Option R)) (c : Ct) => mtRemove_o (g := ⟨sl, [c, .lst (zD left)]⟩) (j := 1) (ns := left) (i := p) rfl pl
      have lf2 : found.length < 100000 := by omega
      have ne : ¬ ((R1.length : Nat) : Int) = 0 := by omega
      conv => lhs; unfold wt_sorted_down_1 wu_sorted_down_1
      simp! [fLcN_ap, gl, re, sc, at1, rm, lf2, ne]
      rfl
theorem sdM_left (ab : List (List Int)) : ∀ (k : Nat) (found left : List Int), ∀ z ∈ (sdM ab k found left).2, z ∈ left
  | 0, found, left, z, h => h
  | k + 1, found, left, z, h => by
    unfold sdM at h
    split at h
    · exact h
    · exact List.mem_of_mem_erase (sdM_left ab k _ _ z h)
def ord2 (n : Nat) (ps : List (Nat × Nat)) : List Int × List Int := sdM (tabM 0 1 n (prsM n ps)) (n + 1) [] (rngI n)
theorem sorted_down_ok {n : Nat} {z : PyData} {ps : List (Nat × Nat)} (t : Bool) (hz : Sq z (ps.map fun p => emP t (castP p))) (hn : n ≤ 16) (hp : ∀ p ∈ ps, VP n p) : fn_sorted_down [.d (.int (n : Int)), .d z] [] = .ok (.dat (.tuple [.list (zD (ord2 n ps).1), .list (zD (ord2 n ps).2)])) [] := by
  have hi := higher_ok t hz hn hp
  have gd := (seeM_good hn hp).2
  have lP : (prsM n ps).length ≤ 256 := by rw [prs_srt, (srtL_perm _).length_eq]; exact gd.len
  have lt : (tabM 0 1 n (prsM n ps)).length = n := by unfold tabM; rw [List.length_map, List.length_range]
  have r := rw_rng n
  obtain ⟨g, e⟩ := sd_go lt hn (fun l hl => by
    unfold tabM at hl
    obtain ⟨p, _, rfl⟩ := List.mem_map.mp hl
    have := sel_len 0 1 (p : Int) (prsM n ps)
    omega) (some (.d (.int (n : Int)))) (some (.d z)) (n + 1) [] (rngI n) none (by rw [r.len]; omega) (by rw [r.len]; exact hn) (by rw [r.len]; simp; omega) r.bd
  have er : rng 0 n = zD (rngI n) := by rw [rng0]; unfold rngI zD; rw [List.map_map]; rfl
  have ho : rgOk 0 (n : Int) = true := decide_eq_true (by omega)
  have e2 : ((n : Int) - 0).toNat = n := by omega
  have fo : ∀ (fa : FE) (g : G), fRgO1 fa g = (fa g).bind fun r g1 => match r with
    | .d (.int j) => if rgOk 0 j then newO (.lst (rng 0 (j - 0).toNat)) g1 else .no
    | _ => .no := fun _ _ => rfl
  have e : sWh wt_sorted_down_1 wu_sorted_down_1 ⟨[some (.d (.int (n : Int))), some (.d z), some (.d (.list ((tabM 0 1 n (prsM n ps)).map fun l => .list (zD l)))), some (.o 0), some (.o 1), none, none, none], [.lst [], .lst (zD (rngI n))]⟩ = .ok (.rt (.d (.tuple [.list (zD (ord2 n ps).1), .list (zD (ord2 n ps).2)]))) g := e
  simp! [fn_sorted_down, b_sorted_down, call_of hi, fo, ho, e2, er, e]
end DL
set_option Elab.async false
set_option linter.all false
set_option maxRecDepth 100000
set_option maxHeartbeats 1000000
set_option autoImplicit false
namespace DL
open PySem PySem.Spec PyProof.Rows L2
noncomputable def ct_cycle_1 : FG := (tN 5)
noncomputable def cc_cycle_1 : FT := (fTst (fOp opIn (fVar 5) (fVar 2)))
noncomputable def cf_cycle_1 : FE := (fVar 5)
noncomputable def wt_cycle_1 : FT := (fTst (fOp opNotIn (fOp opIx (fVar 4) (fNeg (fC (.int 1)))) (fSl (fVar 4) fNoP (fPart (fNeg (fC (.int 1)))))))
noncomputable def wu_cycle_1 : FS := (sEx (fMt mtAppend (fVar 4) (fCons (fOp opIx (fLc (iSeq (fOp opIx (fVar 3) (fOp opIx (fVar 4) (fNeg (fC (.int 1)))))) ct_cycle_1 cc_cycle_1 cf_cycle_1 [5]) (fC (.int 0))) fNil)))
noncomputable def b_cycle : FS :=
  (sSq (sSet (fOp opIx (fCall fn_sorted_down false (fCons (fVar 0) (fCons (fVar 1) fNil))) (fC (.int 1))) (tN 2))
  (sSq (sIte (fTst (fOp opEq (fCl clLen (fCons (fVar 2) fNil)) (fC (.int 0)))) (sRt (fC .none)) sNx)
  (sSq (sP2 3 4 (fCons (fCall fn_higher_of false (fCons (fVar 0) (fCons (fVar 1) fNil))) (fCons (fLstO (fCons (fOp opIx (fVar 2) (fC (.int 0))) fNil)) fNil)))
  (sSq (sWh wt_cycle_1 wu_cycle_1)
  (sRt (fSlO (fVar 4) (fPart (fOp opAdd (fMt mtIndex (fVar 4) (fCons (fOp opIx (fVar 4) (fNeg (fC (.int 1)))) fNil)) (fC (.int 1)))) fNoP))))))
noncomputable def fn_cycle : Fn := mkFn 6 b_cycle
theorem sdM_fix (ab : List (List Int)) : ∀ (k : Nat) (found left : List Int), left.length < k → readyM ab (sdM ab k found left).2 = []
  | 0, found, left, h => absurd h (by omega)
  | k + 1, found, left, h => by
    unfold sdM
    split
    · rename_i e
      exact List.getLast?_eq_none_iff.mp e
    · rename_i p e
      have pm : p ∈ readyM ab left := List.mem_of_getLast? e
      have pl : p ∈ left := (List.mem_filter.mp pm).1
      have le : (left.erase p).length = left.length - 1 := List.length_erase_of_mem pl
      have l0 : 0 < left.length := List.length_pos_of_mem pl
      exact sdM_fix ab k _ _ (by omega)
theorem ready_nil {ab : List (List Int)} {left : List Int} (h : readyM ab left = []) : ∀ p ∈ left, ∃ o os, (ab.getD p.toNat []).filter (fun o => decide (o ∈ left)) = o :: os := fun p hp => by
  have := List.filter_eq_nil_iff.mp h p hp
  cases hf : (ab.getD p.toNat []).filter (fun o => decide (o ∈ left)) with
  | cons o os => exact ⟨o, os, rfl⟩
  | nil =>
    exfalso
    apply this
    rw [Bool.not_eq_true']
    cases ha : (ab.getD p.toNat []).any (fun o => decide (o ∈ left)) with
    | false => rfl
    | true =>
      obtain ⟨o, ho, h2⟩ := List.any_eq_true.mp ha
      have : o ∈ (ab.getD p.toNat []).filter (fun o => decide (o ∈ left)) := List.mem_filter.mpr ⟨ho, h2⟩
      rw [hf] at this
      cases this
def nextM (ab : List (List Int)) (left : List Int) (x : Int) : Int := ((ab.getD x.toNat []).filter (fun o => decide (o ∈ left))).headD 0
def cycGo (ab : List (List Int)) (left : List Int) : Nat → List Int → Int → List Int × Int
  | 0, pre, x => (pre, x)
  | k + 1, pre, x => if x ∈ pre then (pre, x) else cycGo ab left k (pre ++ [x]) (nextM ab left x)
theorem cut_dl (ls : List Int) (t : Int) : cut (zD (ls ++ [t])) none (some (-1)) = zD ls := by
  have hl : (zD (ls ++ [t])).length = ls.length + 1 := by rw [List.length_map, List.length_append]; rfl
  have e : HT.sIx (ls.length + 1) (ls.length + 1) (some (-1)) = ls.length := by
    unfold HT.sIx
    simp only
    rw [if_pos (by decide)]
    omega
  unfold cut
  rw [hl, HT.sIx_none, e, Nat.sub_zero, List.drop_zero]
  unfold zD
  rw [List.map_append, List.take_left' (by rw [List.length_map])]
theorem cyc_go {n : Nat} {ab : List (List Int)} {left : List Int} (hl : ab.length = n) (hn : n ≤ 16) (la : ∀ l ∈ ab, l.length ≤ 300) (hb : ∀ z ∈ left, 0 ≤ z ∧ z < (n : Int)) (hr : readyM ab left = []) (l16 : left.length ≤ 16) (a0 a1 : Option R) : ∀ (k : Nat) (pre : List Int) (x : Int), left.length < pre.length + k → pre.Nodup → (∀ z ∈ pre, z ∈ left) → x ∈ left →
    sWh wt_cycle_1 wu_cycle_1 ⟨[a0, a1, some (.d (.list (zD left))), some (.d (.list (ab.map fun l => .list (zD l)))), some (.o 0), none], [.lst (zD (pre ++ [x]))]⟩ = .ok .nx ⟨[a0, a1, some (.d (.list (zD left))), some (.d (.list (ab.map fun l => .list (zD l)))), some (.o 0), none], [.lst (zD ((cycGo ab left k pre x).1 ++ [(cycGo ab left k pre x).2]))]⟩ ∧ (cycGo ab left k pre x).2 ∈ (cycGo ab left k pre x).1
  | 0, pre, x, h, nd, hp, hx => absurd (sub_len nd hp) (by omega)
  | k + 1, pre, x, h, nd, hp, hx => by
    have lp := sub_len nd hp
    have a1' : atI (zD (pre ++ [x])) (-1) = some (.int x) := last_at _ _ (by simp)
    have c1 := cut_dl pre x
    have ei : ∀ g, inB g (.d (.int x)) (.d (.list (zD pre))) = some (decide (x ∈ pre)) := fun g => inB_sq sqL g
    by_cases hc : x ∈ pre
    · have e1 : cycGo ab left (k + 1) pre x = (pre, x) := if_pos hc
      rw [e1, sWh_step]
      refine ⟨?_, hc⟩
      simp! [wt_cycle_1, a1', c1, ei, hc]
    · have e1 : cycGo ab left (k + 1) pre x = cycGo ab left k (pre ++ [x]) (nextM ab left x) := if_neg hc
      obtain ⟨o, os, ho⟩ := ready_nil hr x hx
      have hn' : nextM ab left x = o := by unfold nextM; rw [ho]; rfl
      have om : o ∈ left := by
        have : o ∈ (ab.getD x.toNat []).filter (fun o => decide (o ∈ left)) := by rw [ho]; exact List.mem_cons_self
        exact of_decide_eq_true (List.mem_filter.mp this).2
      obtain ⟨ih1, ih2⟩ := cyc_go hl hn la hb hr l16 a0 a1 k (pre ++ [x]) o (by rw [List.length_append]; simp only [List.length_cons, List.length_nil]; omega) (List.nodup_append.mpr ⟨nd, by simp, fun a ha b hb' e => hc (by rw [List.mem_singleton.mp hb'] at e; exact e ▸ ha)⟩) (fun z hz => (List.mem_append.mp hz).elim (hp z) fun h => by rw [List.mem_singleton.mp h]; exact hx) om
      rw [e1, hn']
      refine ⟨?_, ih2⟩
      rw [← ih1, sWh_step]
      obtain ⟨h1, h2⟩ := hb x hx
      obtain ⟨m, rfl⟩ : ∃ m : Nat, x = m := ⟨x.toNat, by omega⟩
      have hm : m < ab.length := by omega
      have et : ((m : Int)).toNat = m := by omega
      rw [et] at ho
      have ia : atI (ab.map fun l => PyData.list (zD l)) (m : Int) = some (.list (zD (ab.getD m []))) := atI_nat (by rw [List.getElem?_map, List.getD_eq_getElem?_getD, List.getElem?_eq_getElem hm]; rfl)
      have le : (ab.getD m []).length ≤ 300 := la _ (by rw [List.getD_eq_getElem?_getD, List.getElem?_eq_getElem hm]; exact List.getElem_mem hm)
      have ej : ∀ g (z : Int), inB g (.d (.int z)) (.d (.list (zD left))) = some (decide (z ∈ left)) := fun g z => inB_sq sqL g
      obtain ⟨W, eW⟩ : ∃ W, zD (pre ++ [(m : Int)]) = W := ⟨_, rfl⟩
      have s2 := lcGo_pure (emb := PyData.int) (t := ct_cycle_1) (c := cc_cycle_1) (f := cf_cycle_1) (sl := [a0, a1, some (.d (.list (zD left))), some (.d (.list (ab.map fun l => .list (zD l)))), some (.o 0), none]) (ws := [5]) (ce := [.lst W]) (fun o => decide (o ∈ left)) PyData.int (ab.getD m []) [] (by rw [List.length_nil]; omega) (fun o _ => by
        by_cases q : o ∈ left <;> simp! [lcSt, ct_cycle_1, cc_cycle_1, cf_cycle_1, ej, q])
      rw [ho, List.nil_append] at s2
      have s2 : lcGo ct_cycle_1 cc_cycle_1 cf_cycle_1 [a0, a1, some (.d (.list (zD left))), some (.d (.list (ab.map fun l => .list (zD l)))), some (.o 0), none] [5] (zD (ab.getD m [])) [] [.lst W] = .ok (.int o :: zD os) _ := s2
      have zf : zD (pre ++ [(m : Int)] ++ [o]) = W ++ [.int o] := by rw [← eW]; unfold zD; rw [List.map_append]; rfl
      rw [zf]
      have lW : W.length < 100000 := by rw [← eW]; unfold zD; rw [List.length_map, List.length_append]; simp only [List.length_cons, List.length_nil]; omega
      rw [eW] at a1' c1 ⊢
      obtain ⟨L, eL⟩ : ∃ L, (ab.map fun l => PyData.list (zD l)) = L := ⟨_, rfl⟩
      rw [eL] at ia s2 ⊢
      conv => lhs; unfold wt_cycle_1 wu_cycle_1
      simp! [a1', c1, ei, hc, ia, s2, atI_0, lW]
      rfl
theorem sdM_nd (ab : List (List Int)) : ∀ (k : Nat) (found left : List Int), left.Nodup → (sdM ab k found left).2.Nodup
  | 0, found, left, h => h
  | k + 1, found, left, h => by
    unfold sdM
    split
    · exact h
    · exact sdM_nd ab k _ _ (h.sublist List.erase_sublist)
def tabH (n : Nat) (ps : List (Nat × Nat)) : List (List Int) := tabM 0 1 n (prsM n ps)
def wayM (n : Nat) (ps : List (Nat × Nat)) : List Int × Int := cycGo (tabH n ps) (ord2 n ps).2 17 [] ((ord2 n ps).2.headD 0)
def cycM (n : Nat) (ps : List (Nat × Nat)) : List Int := ((wayM n ps).1 ++ [(wayM n ps).2]).drop (((wayM n ps).1 ++ [(wayM n ps).2]).idxOf (wayM n ps).2 + 1)
def cycR (n : Nat) (ps : List (Nat × Nat)) : Res := if (ord2 n ps).2 = [] then .dat .none else .newC (.lst (zD (cycM n ps)))
theorem cycle_ok {n : Nat} {z : PyData} {ps : List (Nat × Nat)} (t : Bool) (hz : Sq z (ps.map fun p => emP t (castP p))) (hn : n ≤ 16) (hp : ∀ p ∈ ps, VP n p) : fn_cycle [.d (.int (n : Int)), .d z] [] = .ok (cycR n ps) [] := by
  have so := sorted_down_ok t hz hn hp
  have hi := higher_ok t hz hn hp
  have gd := (seeM_good hn hp).2
  have lP : (prsM n ps).length ≤ 256 := by rw [prs_srt, (srtL_perm _).length_eq]; exact gd.len
  have lt : (tabM 0 1 n (prsM n ps)).length = n := by unfold tabM; rw [List.length_map, List.length_range]
  have r := rw_rng n
  have la : ∀ l ∈ tabM 0 1 n (prsM n ps), l.length ≤ 300 := fun l hl => by
    unfold tabM at hl
    obtain ⟨p, _, rfl⟩ := List.mem_map.mp hl
    have := sel_len 0 1 (p : Int) (prsM n ps)
    omega
  have sub := sdM_left (tabM 0 1 n (prsM n ps)) (n + 1) [] (rngI n)
  have fix := sdM_fix (tabM 0 1 n (prsM n ps)) (n + 1) [] (rngI n) (by rw [r.len]; omega)
  have nd := sdM_nd (tabM 0 1 n (prsM n ps)) (n + 1) [] (rngI n) r.nd
  have l16 : (ord2 n ps).2.length ≤ 16 := by
    have := sub_len nd sub
    rw [r.len] at this
    exact Nat.le_trans this hn
  have z0 : ((0 : Nat) : Int) = 0 := rfl
  unfold cycR
  by_cases h : (ord2 n ps).2 = []
  · rw [if_pos h]
    rw [h] at so
    have so : fn_sorted_down [.d (.int (n : Int)), .d z] [] = .ok (.dat (.tuple [.list (zD (ord2 n ps).1), .list []])) [] := so
    simp! [fn_cycle, b_cycle, call_of so, atI_1, z0]
  · rw [if_neg h]
    cases hL : (ord2 n ps).2 with
    | nil => exact absurd hL h
    | cons x xs =>
      have hx : x ∈ (ord2 n ps).2 := by rw [hL]; exact List.mem_cons_self
      obtain ⟨c1, c2⟩ := cyc_go lt hn la (fun z hz => r.bd z (sub z hz)) fix l16 (some (.d (.int (n : Int)))) (some (.d z)) 17 [] x (by show (ord2 n ps).2.length < 0 + 17; omega) List.nodup_nil (fun _ h => nomatch h) hx
      have ew : cycGo (tabM 0 1 n (prsM n ps)) (ord2 n ps).2 17 [] x = wayM n ps := by
        unfold wayM
        rw [hL]
        rfl
      have ew : cycGo (tabM 0 1 n (prsM n ps)) (sdM (tabM 0 1 n (prsM n ps)) (n + 1) [] (rngI n)).2 17 [] x = wayM n ps := ew
      rw [ew] at c1 c2
      have eL : (sdM (tabM 0 1 n (prsM n ps)) (n + 1) [] (rngI n)).2 = (ord2 n ps).2 := rfl
      rw [eL, hL] at c1
      rw [hL] at so
      have ec : cycM n ps = ((wayM n ps).1 ++ [(wayM n ps).2]).drop (((wayM n ps).1 ++ [(wayM n ps).2]).idxOf (wayM n ps).2 + 1) := rfl
      rw [ec]
      generalize wayM n ps = w at c1 c2 ⊢
      obtain ⟨pre, y⟩ := w
      have hy : y ∈ pre ++ [y] := by simp
      have ix := index_int hy
      have la1 : atI (zD (pre ++ [y])) (-1) = some (.int y) := last_at _ _ (by simp)
      have cf := cutZ_from (pre ++ [y]) ((pre ++ [y]).idxOf y + 1)
      have ci : ((((pre ++ [y]).idxOf y : Nat) : Int) + 1) = (((pre ++ [y]).idxOf y + 1 : Nat) : Int) := by omega
      rw [← ci] at cf
      have c1 : sWh wt_cycle_1 wu_cycle_1 ⟨[some (.d (.int (n : Int))), some (.d z), some (.d (.list (zD (x :: xs)))), some (.d (.list ((tabM 0 1 n (prsM n ps)).map fun l => .list (zD l)))), some (.o 0), none], [.lst [.int x]]⟩ = .ok .nx ⟨[some (.d (.int (n : Int))), some (.d z), some (.d (.list (zD (x :: xs)))), some (.d (.list ((tabM 0 1 n (prsM n ps)).map fun l => .list (zD l)))), some (.o 0), none], [.lst (zD (pre ++ [y]))]⟩ := c1
      obtain ⟨W, eW⟩ : ∃ W, pre ++ [y] = W := ⟨_, rfl⟩
      rw [eW] at ix la1 cf c1 ⊢
      have i0 : atI (zD (x :: xs)) 0 = some (.int x) := by rw [atI_0]; rfl
      have ln : ¬ (((x :: xs).length : Nat) : Int) = 0 := by rw [List.length_cons]; omega
      obtain ⟨XS, eX⟩ : ∃ XS, x :: xs = XS := ⟨_, rfl⟩
      rw [eX] at so i0 c1 ln
      simp! [fn_cycle, b_cycle, call_of so, atI_1, ln, call_of hi, i0, c1, la1, ix, cf, fSlO_ap, slOK_l]
end DL
set_option Elab.async false
set_option linter.all false
set_option maxRecDepth 100000
set_option maxHeartbeats 1000000
set_option autoImplicit false
namespace DL
open PySem PySem.Spec PyProof.Rows L2
theorem cyc_len {ab : List (List Int)} {left : List Int} : ∀ (k : Nat) (pre : List Int) (x : Int), (cycGo ab left k pre x).1.length ≤ pre.length + k
  | 0, _, _ => Nat.le_refl _
  | k + 1, pre, x => by
    unfold cycGo
    split
    · show pre.length ≤ _
      omega
    · have := cyc_len (ab := ab) (left := left) k (pre ++ [x]) (nextM ab left x)
      rw [List.length_append] at this
      simp only [List.length_cons, List.length_nil] at this
      omega
theorem cyc_in {ab : List (List Int)} {left : List Int} (hr : readyM ab left = []) : ∀ (k : Nat) (pre : List Int) (x : Int), (∀ z ∈ pre, z ∈ left) → x ∈ left → (∀ z ∈ (cycGo ab left k pre x).1, z ∈ left) ∧ (cycGo ab left k pre x).2 ∈ left
  | 0, pre, x, hp, hx => ⟨hp, hx⟩
  | k + 1, pre, x, hp, hx => by
    unfold cycGo
    split
    · exact ⟨hp, hx⟩
    · obtain ⟨o, os, ho⟩ := ready_nil hr x hx
      have om : nextM ab left x ∈ left := by
        unfold nextM
        rw [ho]
        have : o ∈ (ab.getD x.toNat []).filter (fun o => decide (o ∈ left)) := by rw [ho]; exact List.mem_cons_self
        exact of_decide_eq_true (List.mem_filter.mp this).2
      exact cyc_in hr k (pre ++ [x]) (nextM ab left x) (fun z hz => (List.mem_append.mp hz).elim (hp z) fun h => by rw [List.mem_singleton.mp h]; exact hx) om
theorem cycM_bd {n : Nat} {ps : List (Nat × Nat)} (h : (ord2 n ps).2 ≠ []) : (cycM n ps).length ≤ 18 ∧ ∀ z ∈ cycM n ps, 0 ≤ z ∧ z < (n : Int) := by
  have r := rw_rng n
  have sub := sdM_left (tabM 0 1 n (prsM n ps)) (n + 1) [] (rngI n)
  have fix := sdM_fix (tabM 0 1 n (prsM n ps)) (n + 1) [] (rngI n) (by rw [r.len]; omega)
  have c1 := cyc_len (ab := tabH n ps) (left := (ord2 n ps).2) 17 [] ((ord2 n ps).2.headD 0)
  have hx : (ord2 n ps).2.headD 0 ∈ (ord2 n ps).2 := by
    cases hL : (ord2 n ps).2 with
    | nil => exact absurd hL h
    | cons x xs => exact List.mem_cons_self
  obtain ⟨d1, d2⟩ := cyc_in (ab := tabH n ps) (left := (ord2 n ps).2) fix 17 [] ((ord2 n ps).2.headD 0) (fun _ h => nomatch h) hx
  have e1 : (wayM n ps).1.length ≤ 0 + 17 := c1
  refine ⟨?_, fun z hz => ?_⟩
  · unfold cycM
    rw [List.length_drop, List.length_append, List.length_singleton]
    omega
  · refine r.bd z (sub z ?_)
    rcases List.mem_append.mp (List.mem_of_mem_drop hz) with w | w
    · exact d1 z w
    · rw [List.mem_singleton.mp w]
      exact d2
end DL
set_option Elab.async false
set_option linter.all false
set_option maxRecDepth 100000
set_option maxHeartbeats 1000000
set_option autoImplicit false
namespace DL
open PySem PySem.Spec PyProof.Rows L2
theorem cut_from1 (l : List Int) : cut (zD l) (some 1) none = zD (l.drop 1) := cutZ_from l 1
end DL
set_option Elab.async false
set_option linter.all false
set_option maxRecDepth 100000
set_option maxHeartbeats 1000000
set_option autoImplicit false
namespace DL
open PySem PySem.Spec PyProof.Rows L2
def toI : PyData → Int
  | .int i => i
  | _ => 0
end DL
set_option Elab.async false
set_option linter.all false
set_option maxRecDepth 100000
set_option maxHeartbeats 1000000
set_option autoImplicit false
namespace DL
open PySem PySem.Spec PyProof.Rows L2
end DL
set_option Elab.async false
set_option linter.all false
set_option maxRecDepth 100000
set_option maxHeartbeats 1000000
set_option autoImplicit false
namespace DL
open PySem PySem.Spec PyProof.Rows L2
noncomputable def ct_shows_cycle_1 : FG := (tN 5)
noncomputable def cc_shows_cycle_1 : FT := fYes
noncomputable def cf_shows_cycle_1 : FE := (fCall fn_is_number false (fCons (fVar 5) fNil))
noncomputable def ct_shows_cycle_2 : FG := (tN 6)
noncomputable def cc_shows_cycle_2 : FT := fYes
noncomputable def cf_shows_cycle_2 : FE := (fOp opIn (fVar 6) (fVar 3))
noncomputable def b_shows_cycle : FS :=
  (sSq (sIte (fOrT (fNotT (fTst (fIsi "list" (fVar 2)))) (fOrT (fTst (fOp opLt (fCl clLen (fCons (fVar 2) fNil)) (fC (.int 2)))) (fNotT (fTst (fCl clAll (fCons (fLc (iSeq (fVar 2)) ct_shows_cycle_1 cc_shows_cycle_1 cf_shows_cycle_1 [5]) fNil)))))) (sRt (fC (.bool false))) sNx)
  (sSq (sSet (fCall fn_comparisons false (fCons (fVar 0) (fCons (fVar 1) fNil))) (tN 3))
  (sSq (sSet (fCl clLz2 (fCons (fVar 2) (fCons (fOp opAdd (fSl (fVar 2) (fPart (fC (.int 1))) fNoP) (fSl (fVar 2) fNoP (fPart (fC (.int 1))))) fNil))) (tN 4))
  (sRt (fAnd (fOp opEq (fLenSet (fVar 2)) (fCl clLen (fCons (fVar 2) fNil))) (fCl clAll (fCons (fLc (iSeq (fVar 4)) ct_shows_cycle_2 cc_shows_cycle_2 cf_shows_cycle_2 [6]) fNil)))))))
noncomputable def fn_shows_cycle : Fn := mkFn 7 b_shows_cycle
theorem inB_prs (g : G) (P : List (List Int)) (hP : ∀ k ∈ P, ∃ a b : Int, k = [a, b]) (i j : Int) : inB g (.d (.tuple [.int i, .int j])) (.d (.list (P.map tupD))) = some (decide ([i, j] ∈ P)) := by
  have eP : P.map tupD = psD (P.map fun k => (k.getD 0 0, k.getD 1 0)) := by
    unfold psD
    rw [List.map_map]
    refine List.map_congr_left fun k hk => ?_
    obtain ⟨a, b, rfl⟩ := hP k hk
    rfl
  have ea : (psD (P.map fun k => (k.getD 0 0, k.getD 1 0))).any (fun z => PyData.eqv z (pD (i, j))) = decide ([i, j] ∈ P) := by
    unfold psD
    rw [List.any_map, List.any_map]
    clear eP
    induction P with
    | nil => rfl
    | cons p ps ih =>
      rw [List.any_cons, ih fun k hk => hP k (List.mem_cons_of_mem _ hk)]
      obtain ⟨a, b, rfl⟩ := hP p List.mem_cons_self
      have : PyData.eqv (pD (a, b)) (pD (i, j)) = decide ([a, b] = [i, j]) := by
        rw [eqv_pD]
        refine decide_eq_decide.mpr ⟨fun e => ?_, fun e => ?_⟩
        · have h1 : a = i := congrArg Prod.fst e
          have h2 : b = j := congrArg Prod.snd e
          rw [h1, h2]
        · cases e; rfl
      show (PyData.eqv (pD (a, b)) (pD (i, j)) || _) = _
      rw [this]
      by_cases e : [a, b] = [i, j]
      · rw [e]; simp
      · have : ¬ [i, j] = [a, b] := fun z => e z.symm
        rw [decide_eq_false e, Bool.false_or]
        refine decide_eq_decide.mpr ⟨fun h => List.mem_cons_of_mem _ h, fun h => (List.mem_cons.mp h).elim (fun q => absurd q this) id⟩
  have sh : SeqAt.shaped (.tuple [.int i, .int j]) = true := shaped_pD (a := (i, j))
  show (if (SeqAt.shaped (.tuple [.int i, .int j]) && SeqAt.shaped (.list (P.map tupD))) = true then some ((P.map tupD).any fun z => PyData.eqv z (pD (i, j))) else none) = _
  rw [eP, sh, shaped_pL, ea]
  rfl
def turnL (l : List Int) : List Int := l.drop 1 ++ l.take 1
def shcM (n : Nat) (ps : List (Nat × Nat)) (l : List Int) : Bool := decide (2 ≤ l.length) && decide l.Nodup && (l.zip (turnL l)).all fun p => decide ([p.1, p.2] ∈ prsM n ps)
theorem shows_ok {n : Nat} {z : PyData} {ps : List (Nat × Nat)} (t : Bool) (hz : Sq z (ps.map fun p => emP t (castP p))) (hn : n ≤ 16) (hp : ∀ p ∈ ps, VP n p) {l : List Int} (hl : l.length ≤ 4000) : fn_shows_cycle [.d (.int (n : Int)), .d z, .d (.list (zD l))] [] = .ok (.dat (.bool (shcM n ps l))) [] := by
  have co := comparisons_ok t hz hn hp
  have bd := prs_bd hp
  have b2 : ∀ k ∈ prsM n ps, ∃ a b : Int, k = [a, b] := fun k hk => by
    obtain ⟨a, b, _, _, e⟩ := bd k hk
    exact ⟨_, _, e⟩
  have eP : srtL (seeM n ps).2 = prsM n ps := (prs_srt n ps).symm
  rw [eP] at co
  have ei := fun (g : G) (i j : Int) => inB_prs g (prsM n ps) b2 i j
  unfold shcM
  obtain ⟨P, hP⟩ : ∃ P, prsM n ps = P := ⟨_, rfl⟩
  rw [hP] at co ei ⊢
  have s1 := lcGo_map (emb := PyData.int) (t := ct_shows_cycle_1) (c := cc_shows_cycle_1) (f := cf_shows_cycle_1) (sl := [some (.d (.int (n : Int))), some (.d z), some (.d (.list (zD l))), none, none, none, none]) (ws := [5]) (ce := []) (fun _ => PyData.bool true) (xs := l) (by omega) (fun i _ => by
    have r := is_number_gen (.int i) rfl
    have r : fn_is_number [.d (.int i)] [] = .ok (.dat (.bool true)) [] := r
    simp! [lcSt, ct_shows_cycle_1, cc_shows_cycle_1, cf_shows_cycle_1, call_of r])
  have s1 : lcGo ct_shows_cycle_1 cc_shows_cycle_1 cf_shows_cycle_1 [some (.d (.int (n : Int))), some (.d z), some (.d (.list (zD l))), none, none, none, none] [5] (zD l) [] [] = _ := s1
  rw [show (l.map fun _ => PyData.bool true) = (l.map fun _ => true).map .bool by rw [List.map_map]; rfl] at s1
  have ea : (l.map fun _ => true).all id = true := by rw [List.all_map, List.all_eq_true]; intro _ _; rfl
  by_cases h2 : l.length < 2
  · have h2' : ((l.length : Nat) : Int) < 2 := by omega
    have e0 : decide (2 ≤ l.length) = false := decide_eq_false (by omega)
    rw [e0]
    simp! only [fn_shows_cycle, b_shows_cycle, h2', Bool.false_and]
  · have h2' : ¬ ((l.length : Nat) : Int) < 2 := by omega
    have e0 : decide (2 ≤ l.length) = true := decide_eq_true (by omega)
    rw [e0]
    have k1 : cut (zD l) (some 1) none = zD (l.drop 1) := cut_from1 l
    have k2 : cut (zD l) none (some 1) = zD (l.take 1) := by
      have := cut_to (zD l) 1
      unfold zD at this ⊢
      rw [List.map_take]
      exact this
    have k3 : zD (l.drop 1) ++ zD (l.take 1) = zD (turnL l) := by unfold turnL zD; rw [List.map_append]
    have lT : (turnL l).length = l.length := by unfold turnL; rw [List.length_append, List.length_drop, List.length_take]; omega
    have lz : ((turnL l).length = l.length) = True := eq_true lT
    have lc : (l.drop 1).length + (l.take 1).length ≤ 100000 := by rw [List.length_drop, List.length_take]; omega
    have ez : zip2 (zD l) (zD (turnL l)) = (l.zip (turnL l)).map fun p => pD p := by
      unfold zip2 zD
      rw [List.zipWith_map]
      show _ = (List.zipWith Prod.mk l (turnL l)).map _
      rw [List.map_zipWith]
      rfl
    have s2 := lcGo_map (emb := fun (p : Int × Int) => pD p) (t := ct_shows_cycle_2) (c := cc_shows_cycle_2) (f := cf_shows_cycle_2) (sl := [some (.d (.int (n : Int))), some (.d z), some (.d (.list (zD l))), some (.d (.list (P.map tupD))), some (.d (.list ((l.zip (turnL l)).map fun p => pD p))), none, none]) (ws := [6]) (ce := []) (fun p => PyData.bool (decide ([p.1, p.2] ∈ P))) (xs := l.zip (turnL l)) (by rw [List.length_zip]; omega) (fun p _ => by
      simp! [lcSt, ct_shows_cycle_2, cc_shows_cycle_2, cf_shows_cycle_2, pD, ei])
    rw [show ((l.zip (turnL l)).map fun p => PyData.bool (decide ([p.1, p.2] ∈ P))) = ((l.zip (turnL l)).map fun p => decide ([p.1, p.2] ∈ P)).map .bool by rw [List.map_map]; rfl] at s2
    have eb : ((l.zip (turnL l)).map fun p => decide ([p.1, p.2] ∈ P)).all id = (l.zip (turnL l)).all fun p => decide ([p.1, p.2] ∈ P) := by rw [List.all_map]; rfl
    have ls := fun (g : G) => lenSetK_of (g := g) (r := .d (.list (zD l))) (t := false) (ns := l) rfl hl
    have ed : decide (((dist l).length : Int) = (l.length : Int)) = decide l.Nodup := by
      rw [decide_eq_decide, ← dist_eq_iff l]
      omega
    by_cases hd : l.Nodup
    · rw [decide_eq_true hd] at ed ⊢
      simp! only [fn_shows_cycle, b_shows_cycle, h2', s1, ea, cat2, call_lst co, k1, k2, k3, lc, lz, ez, fLenSet_ap, ls, ed, s2, eb]
    · rw [decide_eq_false hd] at ed ⊢
      simp! only [fn_shows_cycle, b_shows_cycle, h2', s1, ea, cat2, call_lst co, k1, k2, k3, lc, lz, ez, fLenSet_ap, ls, ed, Bool.and_false, Bool.false_and]
end DL
set_option Elab.async false
set_option linter.all false
set_option maxRecDepth 100000
set_option maxHeartbeats 1000000
set_option autoImplicit false
namespace DL
open PySem PySem.Spec PyProof.Rows L2
theorem up_mem {P : List (List Int)} {n m : Nat} (h2 : ∀ k ∈ P, ∃ x y : Int, k = [x, y]) (hm : m < n) {o : Int} : o ∈ (tabM 0 1 n P).getD m [] ↔ [(m : Int), o] ∈ P := by
  have e : (tabM 0 1 n P).getD m [] = selM 0 1 (m : Int) P := by
    unfold tabM
    rw [List.getD_eq_getElem?_getD, List.getElem?_map, List.getElem?_range hm]
    rfl
  rw [e]
  unfold selM
  rw [List.mem_map]
  constructor
  · rintro ⟨k, hk, rfl⟩
    obtain ⟨h1, h3⟩ := List.mem_filter.mp hk
    obtain ⟨x, y, rfl⟩ := h2 k h1
    have : x = (m : Int) := of_decide_eq_true h3
    subst this
    exact h1
  · intro h
    exact ⟨_, List.mem_filter.mpr ⟨h, decide_eq_true rfl⟩, rfl⟩
def Ord (f : Int → Int) (D : List (List Int)) : Prop := ∀ k ∈ D, f (k.getD 0 0) < f (k.getD 1 0)
def restI (n : Nat) (pre : List Int) : List Int := (rngI n).filter fun z => decide (z ∉ pre)
theorem mem_restI {n : Nat} {pre : List Int} {z : Int} : z ∈ restI n pre ↔ z ∈ rngI n ∧ z ∉ pre := by
  unfold restI
  rw [List.mem_filter, decide_eq_true_iff]
theorem erase_restI {n : Nat} {pre : List Int} {p : Int} : (restI n pre).erase p = restI n (pre ++ [p]) := by
  have nd : (restI n pre).Nodup := (rw_rng n).nd.sublist List.filter_sublist
  rw [nd.erase_eq_filter]
  unfold restI
  rw [List.filter_filter]
  refine List.filter_congr fun z _ => ?_
  rw [Bool.eq_iff_iff, Bool.and_eq_true, decide_eq_true_iff, decide_eq_true_iff, bne_iff_ne, List.mem_append, List.mem_singleton]
  constructor
  · rintro ⟨a, b⟩ (h | h)
    · exact b h
    · exact a h
  · exact fun h => ⟨fun q => h (.inr q), fun q => h (.inl q)⟩
theorem sd_inv {n : Nat} (ab : List (List Int)) : ∀ (k : Nat) (pre : List Int), pre.Nodup → ∃ l, (sdM ab k pre (restI n pre)).1 = pre ++ l ∧ (sdM ab k pre (restI n pre)).2 = restI n (pre ++ l) ∧ (pre ++ l).Nodup ∧ ∀ a p b, l = a ++ p :: b → (readyM ab (restI n (pre ++ a))).getLast? = some p
  | 0, pre, nd => ⟨[], by rw [List.append_nil]; rfl, by rw [List.append_nil]; rfl, by rw [List.append_nil]; exact nd, fun a p b h => by simp at h⟩
  | k + 1, pre, nd => by
    cases e : (readyM ab (restI n pre)).getLast? with
    | none =>
      have e1 : sdM ab (k + 1) pre (restI n pre) = (pre, restI n pre) := by
        unfold sdM
        rw [e]
      rw [e1]
      exact ⟨[], by rw [List.append_nil], by rw [List.append_nil], by rw [List.append_nil]; exact nd, fun a p b h => by simp at h⟩
    | some p =>
      have e1 : sdM ab (k + 1) pre (restI n pre) = sdM ab k (pre ++ [p]) ((restI n pre).erase p) := by
        conv => lhs; unfold sdM
        rw [e]
      have pm : p ∈ restI n pre := (List.mem_filter.mp (List.mem_of_getLast? e)).1
      have pn := (mem_restI.mp pm).2
      obtain ⟨l, h1, h2, h3, h4⟩ := sd_inv ab k (pre ++ [p]) (List.nodup_append.mpr ⟨nd, by simp, fun a ha b hb q => pn (by rw [← List.mem_singleton.mp hb, ← q]; exact ha)⟩)
      rw [e1, erase_restI]
      rw [List.append_assoc] at h1 h2 h3
      refine ⟨p :: l, h1, h2, h3, fun a q b hq => ?_⟩
      cases a with
      | nil =>
        rw [List.nil_append] at hq
        rw [List.append_nil, e]
        injection hq with hq _
        rw [hq]
      | cons x a =>
        rw [List.cons_append] at hq
        injection hq with hq1 hq2
        subst hq1
        have := h4 a q b hq2
        rw [List.append_assoc] at this
        exact this
theorem idx_split {x y : List Int} {p : Int} (h : p ∉ x) : (x ++ p :: y).idxOf p = x.length := by
  rw [List.idxOf_append, if_neg h, List.idxOf_cons_self, Nat.zero_add]
theorem idx_in {x y : List Int} {p : Int} (h : p ∈ x) : (x ++ y).idxOf p < x.length := by
  rw [List.idxOf_append, if_pos h]
  exact List.idxOf_lt_length_iff.mpr h
def hO (n : Nat) (O : List Int) (p : Int) : Int := (n : Int) - ((O.idxOf p : Nat) : Int)
theorem max_of {f : Int → Int} : ∀ {l : List Int}, l ≠ [] → ∃ p ∈ l, ∀ q ∈ l, f q ≤ f p
  | [], h => absurd rfl h
  | [x], _ => ⟨x, List.mem_cons_self, fun q hq => by rw [List.mem_singleton.mp hq]; exact Int.le_refl _⟩
  | x :: y :: l, _ => by
    obtain ⟨p, hp, h⟩ := max_of (f := f) (l := y :: l) (by simp)
    by_cases c : f x ≤ f p
    · refine ⟨p, List.mem_cons_of_mem _ hp, fun q hq => ?_⟩
      rcases List.mem_cons.mp hq with rfl | hq
      · exact c
      · exact h q hq
    · refine ⟨x, List.mem_cons_self, fun q hq => ?_⟩
      rcases List.mem_cons.mp hq with rfl | hq
      · exact Int.le_refl _
      · have := h q hq
        omega
theorem ready_no {n : Nat} {P : List (List Int)} {pre : List Int} {p o : Int} (h2 : ∀ k ∈ P, ∃ a b : Nat, a < n ∧ b < n ∧ k = [(a : Int), (b : Int)]) (hp : p ∈ readyM (tabM 0 1 n P) (restI n pre)) (ho : [p, o] ∈ P) : o ∈ pre := by
  obtain ⟨h1, h3⟩ := List.mem_filter.mp hp
  obtain ⟨b1, b2⟩ := (rw_rng n).bd p (mem_restI.mp h1).1
  obtain ⟨m, rfl⟩ : ∃ m : Nat, p = m := ⟨p.toNat, by omega⟩
  obtain ⟨a, b, ha, hb, e⟩ := h2 _ ho
  injection e with e1 e2
  injection e2 with e2 _
  by_cases q : o ∈ pre
  · exact q
  · exfalso
    have om : o ∈ restI n pre := mem_restI.mpr ⟨List.mem_map.mpr ⟨b, List.mem_range.mpr hb, e2.symm⟩, q⟩
    have up := (up_mem (n := n) (fun k hk => by obtain ⟨a, b, _, _, e⟩ := h2 k hk; exact ⟨_, _, e⟩) (show m < n by omega)).mpr ho
    have et : ((m : Int)).toNat = m := by omega
    rw [et] at h3
    rw [Bool.not_eq_true'] at h3
    have : (((tabM 0 1 n P).getD m []).any fun o => decide (o ∈ restI n pre)) = true := List.any_eq_true.mpr ⟨o, up, decide_eq_true om⟩
    rw [this] at h3
    cases h3
theorem ready_yes {n : Nat} {P : List (List Int)} {pre : List Int} {p : Int} (h2 : ∀ k ∈ P, ∃ a b : Nat, a < n ∧ b < n ∧ k = [(a : Int), (b : Int)]) (hp : p ∈ restI n pre) (h : ∀ o, [p, o] ∈ P → o ∈ pre) : p ∈ readyM (tabM 0 1 n P) (restI n pre) := by
  refine List.mem_filter.mpr ⟨hp, ?_⟩
  obtain ⟨b1, b2⟩ := (rw_rng n).bd p (mem_restI.mp hp).1
  obtain ⟨m, rfl⟩ : ∃ m : Nat, p = m := ⟨p.toNat, by omega⟩
  have et : ((m : Int)).toNat = m := by omega
  rw [et, Bool.not_eq_true']
  cases e : ((tabM 0 1 n P).getD m []).any fun o => decide (o ∈ restI n pre) with
  | false => rfl
  | true =>
    obtain ⟨o, ho, h3⟩ := List.any_eq_true.mp e
    have up := (up_mem (n := n) (fun k hk => by obtain ⟨a, b, _, _, e⟩ := h2 k hk; exact ⟨_, _, e⟩) (show m < n by omega)).mp ho
    exact absurd (h o up) (mem_restI.mp (of_decide_eq_true h3)).2
end DL
set_option Elab.async false
set_option linter.all false
set_option maxRecDepth 100000
set_option maxHeartbeats 1000000
set_option autoImplicit false
namespace DL
open PySem PySem.Spec PyProof.Rows L2
def Bef (O : List Int) (b a : Int) : Prop := ∃ x y, O = x ++ a :: y ∧ b ∈ x
theorem nd_split {x y : List Int} {a : Int} (nd : (x ++ a :: y).Nodup) : a ∉ x := fun h => (List.nodup_append.mp nd).2.2 a h a List.mem_cons_self rfl
theorem bef_lt {n : Nat} {O : List Int} {a b : Int} (nd : O.Nodup) (h : Bef O b a) : hO n O a < hO n O b := by
  obtain ⟨x, y, rfl, hb⟩ := h
  unfold hO
  rw [idx_split (nd_split nd)]
  have := idx_in (y := a :: y) hb
  omega
structure OrdF (n : Nat) (P : List (List Int)) (O L : List Int) : Prop where
  nd : O.Nodup
  lf : L = restI n O
  st : ∀ a p b, O = a ++ p :: b → (readyM (tabM 0 1 n P) (restI n a)).getLast? = some p
  fx : readyM (tabM 0 1 n P) L = []
theorem rest_nil (n : Nat) : restI n [] = rngI n := by
  unfold restI
  rw [List.filter_eq_self]
  intro z _
  exact decide_eq_true (by simp)
theorem ord_facts (n : Nat) (ps : List (Nat × Nat)) : OrdF n (prsM n ps) (ord2 n ps).1 (ord2 n ps).2 := by
  obtain ⟨l, h1, h2, h3, h4⟩ := sd_inv (n := n) (tabM 0 1 n (prsM n ps)) (n + 1) [] List.nodup_nil
  rw [rest_nil, List.nil_append] at h1 h2
  rw [List.nil_append] at h3
  have fix := sdM_fix (tabM 0 1 n (prsM n ps)) (n + 1) [] (rngI n) (by rw [(rw_rng n).len]; omega)
  have e1 : (ord2 n ps).1 = l := h1
  have e2 : (ord2 n ps).2 = restI n l := h2
  refine ⟨by rw [e1]; exact h3, by rw [e1, e2], fun a p b e => ?_, fix⟩
  rw [e1] at e
  exact h4 a p b e
def PB (n : Nat) (P : List (List Int)) : Prop := ∀ k ∈ P, ∃ a b : Nat, a < n ∧ b < n ∧ k = [(a : Int), (b : Int)]
theorem PB.in {n : Nat} {P : List (List Int)} (h : PB n P) {a b : Int} (hk : [a, b] ∈ P) : a ∈ rngI n ∧ b ∈ rngI n := by
  obtain ⟨x, y, hx, hy, e⟩ := h _ hk
  injection e with e1 e2
  injection e2 with e2 _
  exact ⟨List.mem_map.mpr ⟨x, List.mem_range.mpr hx, e1.symm⟩, List.mem_map.mpr ⟨y, List.mem_range.mpr hy, e2.symm⟩⟩
theorem PB.two {n : Nat} {P : List (List Int)} (h : PB n P) : ∀ k ∈ P, ∃ x y : Int, k = [x, y] := fun k hk => by
  obtain ⟨a, b, _, _, e⟩ := h k hk
  exact ⟨_, _, e⟩
theorem ord_iff {n : Nat} {P : List (List Int)} (h : PB n P) {f : Int → Int} : Ord f P ↔ ∀ a b, [a, b] ∈ P → f a < f b := by
  constructor
  · exact fun q a b hk => q _ hk
  · intro q k hk
    obtain ⟨x, y, rfl⟩ := h.two k hk
    exact q x y hk
theorem ord_perm {n : Nat} {P : List (List Int)} {O L : List Int} (F : OrdF n P O L) (h : L = []) : O.Perm (rngI n) := by
  refine (List.perm_ext_iff_of_nodup F.nd (rw_rng n).nd).mpr fun z => ⟨fun hz => ?_, fun hz => ?_⟩
  · obtain ⟨x, y, e⟩ := List.append_of_mem hz
    exact (mem_restI.mp (List.mem_filter.mp (List.mem_of_getLast? (F.st x z y e))).1).1
  · by_cases q : z ∈ O
    · exact q
    · have : z ∈ restI n O := mem_restI.mpr ⟨hz, q⟩
      rw [← F.lf, h] at this
      cases this
theorem ord_bef {n : Nat} {P : List (List Int)} {O L : List Int} (F : OrdF n P O L) (h : L = []) (pb : PB n P) {a b : Int} (hk : [a, b] ∈ P) : Bef O b a := by
  have ha : a ∈ O := (ord_perm F h).mem_iff.mpr (pb.in hk).1
  obtain ⟨x, y, e⟩ := List.append_of_mem ha
  exact ⟨x, y, e, ready_no pb (List.mem_of_getLast? (F.st x a y e)) hk⟩
theorem bef_ord {n : Nat} {P : List (List Int)} {O : List Int} (pb : PB n P) (nd : O.Nodup) (h : ∀ a b, [a, b] ∈ P → Bef O b a) : Ord (hO n O) P := (ord_iff pb).mpr fun a b hk => bef_lt nd (h a b hk)
theorem ord_none {n : Nat} {P : List (List Int)} {O L : List Int} (F : OrdF n P O L) (pb : PB n P) {f : Int → Int} (hf : Ord f P) : L = [] := by
  cases hL : L with
  | nil => rfl
  | cons x xs =>
    exfalso
    obtain ⟨p, hp, hm⟩ := max_of (f := f) (l := L) (by rw [hL]; simp)
    have hp' := hp
    rw [F.lf] at hp'
    have : p ∉ readyM (tabM 0 1 n P) (restI n O) := by rw [← F.lf, F.fx]; simp
    have : ¬ ∀ o, [p, o] ∈ P → o ∈ O := fun q => this (ready_yes pb hp' q)
    apply this
    intro o ho
    by_cases q : o ∈ O
    · exact q
    · exfalso
      have om : o ∈ L := by rw [F.lf]; exact mem_restI.mpr ⟨(pb.in ho).2, q⟩
      have h1 := hm o om
      have h2 := (ord_iff pb).mp hf p o ho
      omega
end DL
set_option Elab.async false
set_option linter.all false
set_option maxRecDepth 100000
set_option maxHeartbeats 1000000
set_option autoImplicit false
namespace DL
open PySem PySem.Spec PyProof.Rows L2
end DL
set_option Elab.async false
set_option linter.all false
set_option maxRecDepth 100000
set_option maxHeartbeats 1000000
set_option autoImplicit false
namespace DL
open PySem PySem.Spec PyProof.Rows L2
def chn (P : List (List Int)) : List Int → Prop
  | a :: b :: l => [a, b] ∈ P ∧ chn P (b :: l)
  | _ => True
theorem chn_last {P : List (List Int)} {x y : Int} (h2 : [x, y] ∈ P) : ∀ {l : List Int}, chn P (l ++ [x]) → chn P (l ++ [x] ++ [y])
  | [], _ => ⟨h2, trivial⟩
  | [a], h => ⟨h.1, h2, trivial⟩
  | a :: b :: l, h => ⟨h.1, chn_last (l := b :: l) h2 h.2⟩
theorem chn_suf {P : List (List Int)} : ∀ {s l : List Int}, chn P (s ++ l) → chn P l
  | [], _, h => h
  | [a], [], _ => trivial
  | [a], b :: l, h => h.2
  | a :: b :: s, l, h => chn_suf (s := b :: s) h.2
theorem chn_mono {P Q : List (List Int)} (hs : ∀ k ∈ P, k ∈ Q) : ∀ {l : List Int}, chn P l → chn Q l
  | [], _ => trivial
  | [_], _ => trivial
  | a :: b :: l, h => ⟨hs _ h.1, chn_mono hs (l := b :: l) h.2⟩
theorem chn_zip {P : List (List Int)} {e : Int} : ∀ {l : List Int} {c : Int}, chn P (c :: (l ++ [e])) → ((c :: l).zip (l ++ [e])).all (fun p => decide ([p.1, p.2] ∈ P)) = true
  | [], c, h => by
    show (decide ([c, e] ∈ P) && true) = true
    rw [decide_eq_true h.1]
    rfl
  | d :: l, c, h => by
    show (decide ([c, d] ∈ P) && ((d :: l).zip (l ++ [e])).all _) = true
    rw [decide_eq_true h.1, chn_zip (l := l) (c := d) h.2]
    rfl
theorem next_in {n : Nat} {P : List (List Int)} (pb : PB n P) {left : List Int} (hr : readyM (tabM 0 1 n P) left = []) {x : Int} (hx : x ∈ left) (hb : x ∈ rngI n) : [x, nextM (tabM 0 1 n P) left x] ∈ P ∧ nextM (tabM 0 1 n P) left x ∈ left := by
  obtain ⟨o, os, ho⟩ := ready_nil hr x hx
  have e : nextM (tabM 0 1 n P) left x = o := by unfold nextM; rw [ho]; rfl
  rw [e]
  have om : o ∈ ((tabM 0 1 n P).getD x.toNat []).filter (fun o => decide (o ∈ left)) := by rw [ho]; exact List.mem_cons_self
  obtain ⟨m1, m2⟩ := List.mem_filter.mp om
  obtain ⟨b1, b2⟩ := (rw_rng n).bd x hb
  obtain ⟨m, rfl⟩ : ∃ m : Nat, x = m := ⟨x.toNat, by omega⟩
  rw [Int.toNat_natCast] at m1
  exact ⟨(up_mem pb.two (by omega)).mp m1, of_decide_eq_true m2⟩
theorem cyc_chain {n : Nat} {P : List (List Int)} (pb : PB n P) {left : List Int} (hr : readyM (tabM 0 1 n P) left = []) (hl : ∀ z ∈ left, z ∈ rngI n) : ∀ (k : Nat) (pre : List Int) (x : Int), left.length < pre.length + k → pre.Nodup → (∀ z ∈ pre, z ∈ left) → x ∈ left → chn P (pre ++ [x]) →
    (cycGo (tabM 0 1 n P) left k pre x).1.Nodup ∧ chn P ((cycGo (tabM 0 1 n P) left k pre x).1 ++ [(cycGo (tabM 0 1 n P) left k pre x).2]) ∧ (cycGo (tabM 0 1 n P) left k pre x).2 ∈ (cycGo (tabM 0 1 n P) left k pre x).1
  | 0, pre, x, h, nd, hp, hx, hc => absurd (sub_len nd hp) (by omega)
  | k + 1, pre, x, h, nd, hp, hx, hc => by
    by_cases q : x ∈ pre
    · have e : cycGo (tabM 0 1 n P) left (k + 1) pre x = (pre, x) := if_pos q
      rw [e]
      exact ⟨nd, hc, q⟩
    · have e : cycGo (tabM 0 1 n P) left (k + 1) pre x = cycGo (tabM 0 1 n P) left k (pre ++ [x]) (nextM (tabM 0 1 n P) left x) := if_neg q
      rw [e]
      obtain ⟨n1, n2⟩ := next_in pb hr hx (hl x hx)
      exact cyc_chain pb hr hl k (pre ++ [x]) _ (by rw [List.length_append]; simp only [List.length_cons, List.length_nil]; omega) (List.nodup_append.mpr ⟨nd, by simp, fun a ha b hb e => q (by rw [← List.mem_singleton.mp hb, ← e]; exact ha)⟩) (fun z hz => (List.mem_append.mp hz).elim (hp z) fun w => by rw [List.mem_singleton.mp w]; exact hx) n2 (chn_last n1 hc)
def Irr (P : List (List Int)) : Prop := ∀ k ∈ P, k.getD 0 0 ≠ k.getD 1 0
theorem irr_addK {D : List (List Int)} {a b : Int} (h : Irr D) (ne : a ≠ b) : Irr (addK D [a, b]) := fun k hk => by
  rcases mem_addK.mp hk with w | rfl
  · exact h k w
  · exact ne
theorem irr_lows {a b : Int} : ∀ {lows : List Int} {D : List (List Int)}, Irr D → (∀ z ∈ lows, z ≠ a ∧ z ≠ b) → Irr (lowsD D a b lows)
  | [], D, h, _ => h
  | z :: lows, D, h, hz => by
    have e : lowsD D a b (z :: lows) = lowsD (addK (addK D [z, a]) [z, b]) a b lows := rfl
    rw [e]
    obtain ⟨h1, h2⟩ := hz z List.mem_cons_self
    exact irr_lows (irr_addK (irr_addK h h1) h2) fun y hy => hz y (List.mem_cons_of_mem _ hy)
theorem betw_ne {n : Nat} {here : List Int} (r : Rw n here) {i j : Nat} (h1 : i < j) (h2 : j < n) : ∀ z ∈ betw here i j, z ≠ here.getD i 0 ∧ z ≠ here.getD j 0 := fun z hz => by
  obtain ⟨k, hk, rfl⟩ := List.getElem_of_mem hz
  have lk : k < j - (i + 1) := by
    unfold betw at hk
    rw [List.length_take] at hk
    omega
  have e : (betw here i j)[k] = here.getD (i + 1 + k) 0 := by
    have h1 : (betw here i j)[k]? = here[i + 1 + k]? := by
      unfold betw
      rw [List.getElem?_take_of_lt lk, List.getElem?_drop]
    rw [List.getElem?_eq_getElem hk] at h1
    rw [List.getD_eq_getElem?_getD, ← h1]
    rfl
  rw [e]
  exact ⟨r.ne (by omega) (by omega) (by omega), r.ne (by omega) h2 (by omega)⟩
theorem rw_step {n : Nat} {S : List Int × List (List Int)} {p : Nat × Nat} (r : Rw n S.1) (v : VP n p) : Rw n (seeS S p).1 := by
  obtain ⟨v1, v2⟩ := v
  have pm := swapM_perm (ns := S.1) (i := p.1) (j := p.2) (by omega) (by rw [r.len]; omega)
  exact ⟨pm.length_eq.trans r.len, pm.nodup_iff.mpr r.nd, fun z hz => r.bd z (pm.mem_iff.mp hz)⟩
theorem irr_see {n : Nat} : ∀ {ps : List (Nat × Nat)} {S : List Int × List (List Int)}, Rw n S.1 → (∀ p ∈ ps, VP n p) → Irr S.2 → Irr (ps.foldl seeS S).2
  | [], S, _, _, h => h
  | p :: ps, S, r, hp, h => by
    obtain ⟨v1, v2⟩ := hp p List.mem_cons_self
    rw [List.foldl_cons]
    exact irr_see (rw_step r ⟨v1, v2⟩) (fun q hq => hp q (List.mem_cons_of_mem _ hq)) (irr_lows h (betw_ne r (by omega) v2))
theorem prs_irr {n : Nat} {ps : List (Nat × Nat)} (hp : ∀ p ∈ ps, VP n p) : Irr (prsM n ps) := fun k hk => by
  rw [prs_srt] at hk
  exact irr_see (S := (rngI n, [])) (rw_rng n) hp (fun _ h => nomatch h) k ((srtL_perm _).mem_iff.mp hk)
/-- the cycle that is found is one, by these reports and by any more -/
theorem cyc_true {n : Nat} {ps qs : List (Nat × Nat)} (hn : n ≤ 16) (hp : ∀ p ∈ ps, VP n p) (h : (ord2 n ps).2 ≠ []) (hs : ∀ k ∈ prsM n ps, k ∈ prsM n qs) : shcM n qs (cycM n ps) = true ∧ (cycM n ps).Nodup ∧ 2 ≤ (cycM n ps).length := by
  have F := ord_facts n ps
  have pb : PB n (prsM n ps) := prs_bd hp
  have hl : ∀ z ∈ (ord2 n ps).2, z ∈ rngI n := fun z hz => by
    rw [F.lf] at hz
    exact (mem_restI.mp hz).1
  have ll : (ord2 n ps).2.length < 0 + 17 := by
    have nd : (ord2 n ps).2.Nodup := by rw [F.lf]; exact (rw_rng n).nd.sublist List.filter_sublist
    have := sub_len nd hl
    rw [(rw_rng n).len] at this
    omega
  have hx : (ord2 n ps).2.headD 0 ∈ (ord2 n ps).2 := by
    cases hL : (ord2 n ps).2 with
    | nil => exact absurd hL h
    | cons x xs => exact List.mem_cons_self
  obtain ⟨c1, c2, c3⟩ := cyc_chain pb F.fx hl 17 [] ((ord2 n ps).2.headD 0) ll List.nodup_nil (fun _ h => nomatch h) hx trivial
  have ew : cycGo (tabM 0 1 n (prsM n ps)) (ord2 n ps).2 17 [] ((ord2 n ps).2.headD 0) = wayM n ps := rfl
  rw [ew] at c1 c2 c3
  unfold cycM
  generalize wayM n ps = w at c1 c2 c3 ⊢
  obtain ⟨pre, x⟩ := w
  have c1 : pre.Nodup := c1
  have c2 : chn (prsM n ps) (pre ++ [x]) := c2
  have c3 : x ∈ pre := c3
  show shcM n qs ((pre ++ [x]).drop ((pre ++ [x]).idxOf x + 1)) = true ∧ ((pre ++ [x]).drop ((pre ++ [x]).idxOf x + 1)).Nodup ∧ 2 ≤ ((pre ++ [x]).drop ((pre ++ [x]).idxOf x + 1)).length
  obtain ⟨s, t, e⟩ := List.append_of_mem c3
  subst e
  have xs : x ∉ s := nd_split c1
  have ei : (s ++ x :: t ++ [x]).idxOf x = s.length := by
    rw [List.append_assoc]
    exact idx_split xs
  have ed : (s ++ x :: t ++ [x]).drop (s.length + 1) = t ++ [x] := by
    have : s ++ x :: t ++ [x] = (s ++ [x]) ++ (t ++ [x]) := by simp
    rw [this, List.drop_left' (by rw [List.length_append]; rfl)]
  rw [ei, ed]
  have c4 : chn (prsM n ps) (x :: (t ++ [x])) := by
    have : s ++ x :: t ++ [x] = s ++ (x :: (t ++ [x])) := by simp
    rw [this] at c2
    exact chn_suf c2
  have c5 : (x :: t).Nodup := (List.nodup_append.mp c1).2.1
  cases t with
  | nil => exact absurd rfl (prs_irr hp _ c4.1)
  | cons y t =>
    obtain ⟨n1, n2⟩ := List.nodup_cons.mp c5
    have nd : (y :: t ++ [x]).Nodup := List.nodup_append.mpr ⟨n2, by simp, fun a ha b hb e => n1 (by rw [← List.mem_singleton.mp hb, ← e]; exact ha)⟩
    have l2 : 2 ≤ (y :: t ++ [x]).length := by rw [List.length_append]; simp
    refine ⟨?_, nd, l2⟩
    unfold shcM
    rw [decide_eq_true l2, decide_eq_true nd]
    have et : turnL (y :: t ++ [x]) = (t ++ [x]) ++ [y] := rfl
    rw [et]
    have c6 : chn (prsM n qs) (y :: ((t ++ [x]) ++ [y])) := chn_mono hs (by
      have := chn_last (l := y :: t) c4.1 c4.2
      exact this)
    exact chn_zip c6
end DL
set_option Elab.async false
set_option linter.all false
set_option maxRecDepth 100000
set_option maxHeartbeats 1000000
set_option autoImplicit false
namespace DL
open PySem PySem.Spec PyProof.Rows L2
def readyF (P : List (List Int)) (left : List Int) : List Int := left.filter fun s => !((P.filter fun k => decide (k.getD 1 0 = s)).any fun k => decide (k.getD 0 0 ∈ left))
def restF (P : List (List Int)) (left : List Int) : List Int := left.filter fun s => decide (s ∉ readyF P left)
def freeGo (P : List (List Int)) : Nat → List Int → Bool
  | 0, _ => true
  | k + 1, left => if left = [] then true else if readyF P left = [] then false else freeGo P k (restF P left)
theorem mem_readyF {P : List (List Int)} (h2 : ∀ k ∈ P, ∃ x y : Int, k = [x, y]) {left : List Int} {s : Int} : s ∈ readyF P left ↔ s ∈ left ∧ ∀ a, [a, s] ∈ P → a ∉ left := by
  unfold readyF
  rw [List.mem_filter, Bool.not_eq_true']
  refine and_congr_right fun _ => ?_
  constructor
  · intro h a ha hl
    have : (P.filter fun k => decide (k.getD 1 0 = s)).any (fun k => decide (k.getD 0 0 ∈ left)) = true := List.any_eq_true.mpr ⟨[a, s], List.mem_filter.mpr ⟨ha, decide_eq_true rfl⟩, decide_eq_true hl⟩
    rw [h] at this
    cases this
  · intro h
    cases hc : (P.filter fun k => decide (k.getD 1 0 = s)).any (fun k => decide (k.getD 0 0 ∈ left)) with
    | false => rfl
    | true =>
      exfalso
      obtain ⟨k, hk, hl⟩ := List.any_eq_true.mp hc
      obtain ⟨hk1, he⟩ := List.mem_filter.mp hk
      obtain ⟨x, y, rfl⟩ := h2 k hk1
      have he : y = s := of_decide_eq_true he
      subst he
      exact h x hk1 (of_decide_eq_true hl)
theorem mem_restF {P : List (List Int)} {left : List Int} {s : Int} : s ∈ restF P left ↔ s ∈ left ∧ s ∉ readyF P left := by
  unfold restF
  rw [List.mem_filter, decide_eq_true_eq]
theorem restF_len {P : List (List Int)} {left : List Int} (h : readyF P left ≠ []) : (restF P left).length < left.length := by
  obtain ⟨s, hs⟩ := List.exists_mem_of_ne_nil _ h
  have hl : s ∈ left := (List.mem_filter.mp hs).1
  have : (restF P left).length ≤ left.length := List.length_filter_le _ _
  rcases Nat.lt_or_ge (restF P left).length left.length with q | q
  · exact q
  · exfalso
    have e : restF P left = left := List.filter_eq_self.mpr (List.length_filter_eq_length_iff.mp (by unfold restF at q this; omega))
    have : s ∈ restF P left := by rw [e]; exact hl
    exact (mem_restF.mp this).2 hs
theorem min_of {f : Int → Int} {l : List Int} (h : l ≠ []) : ∃ p ∈ l, ∀ q ∈ l, f p ≤ f q := by
  obtain ⟨p, hp, hm⟩ := max_of (f := fun z => - f z) h
  exact ⟨p, hp, fun q hq => by have := hm q hq; omega⟩
theorem free_yes {P : List (List Int)} (h2 : ∀ k ∈ P, ∃ x y : Int, k = [x, y]) {f : Int → Int} (hf : ∀ a b, [a, b] ∈ P → f a < f b) : ∀ (k : Nat) (left : List Int), freeGo P k left = true
  | 0, left => rfl
  | k + 1, left => by
    unfold freeGo
    by_cases h0 : left = []
    · rw [if_pos h0]
    · rw [if_neg h0]
      obtain ⟨p, hp, hm⟩ := min_of (f := f) h0
      have : p ∈ readyF P left := (mem_readyF h2).mpr ⟨hp, fun a ha hl => by
        have h1 := hm a hl
        have h3 := hf a p ha
        omega⟩
      rw [if_neg (fun e => by rw [e] at this; cases this)]
      exact free_yes h2 hf k _
theorem free_ord {P : List (List Int)} (h2 : ∀ k ∈ P, ∃ x y : Int, k = [x, y]) : ∀ (k : Nat) (left : List Int), left.length < k → freeGo P k left = true → ∃ f : Int → Nat, ∀ a b, [a, b] ∈ P → a ∈ left → b ∈ left → f a < f b
  | 0, left, h, _ => absurd h (by omega)
  | k + 1, left, h, hg => by
    unfold freeGo at hg
    by_cases h0 : left = []
    · subst h0
      exact ⟨fun _ => 0, fun a b _ ha => nomatch ha⟩
    · rw [if_neg h0] at hg
      by_cases h1 : readyF P left = []
      · rw [if_pos h1] at hg
        cases hg
      · rw [if_neg h1] at hg
        have := restF_len h1
        obtain ⟨f, hf⟩ := free_ord h2 k _ (by omega) hg
        refine ⟨fun z => if z ∈ readyF P left then 0 else f z + 1, fun a b hk ha hb => ?_⟩
        have nb : b ∉ readyF P left := fun q => ((mem_readyF h2).mp q).2 a hk ha
        show (if a ∈ readyF P left then 0 else f a + 1) < (if b ∈ readyF P left then 0 else f b + 1)
        rw [if_neg nb]
        by_cases qa : a ∈ readyF P left
        · rw [if_pos qa]; omega
        · rw [if_neg qa]
          have := hf a b hk (mem_restF.mpr ⟨ha, qa⟩) (mem_restF.mpr ⟨hb, nb⟩)
          omega
def freeM (n : Nat) (ps : List (Nat × Nat)) : Bool := freeGo (prsM n ps) (n + 1) (rngI n)
theorem free_iff {n : Nat} {ps : List (Nat × Nat)} (hp : ∀ p ∈ ps, VP n p) : freeM n ps = decide ((ord2 n ps).2 = []) := by
  have pb : PB n (prsM n ps) := prs_bd hp
  have F := ord_facts n ps
  by_cases h : (ord2 n ps).2 = []
  · rw [decide_eq_true h]
    have o := bef_ord pb F.nd fun a b hk => ord_bef F h pb hk
    exact free_yes pb.two ((ord_iff pb).mp o) _ _
  · rw [decide_eq_false h]
    cases hc : freeM n ps with
    | false => rfl
    | true =>
      exfalso
      obtain ⟨f, hf⟩ := free_ord pb.two (n + 1) (rngI n) (by rw [(rw_rng n).len]; omega) hc
      exact h (ord_none F pb (f := fun z => (f z : Int)) ((ord_iff pb).mpr fun a b hk => by
        have := hf a b hk (pb.in hk).1 (pb.in hk).2
        omega))
end DL
set_option Elab.async false
set_option linter.all false
set_option maxRecDepth 100000
set_option maxHeartbeats 1000000
set_option autoImplicit false
namespace DL
open PySem PySem.Spec PyProof.Rows L2
noncomputable def ft_law_seen_in_2 : FG := (tN 6)
noncomputable def fu_law_seen_in_2 : FS := (sSq (sPut (fVar 3) (fTup (fCons (fVar 6) (fCons (fOp opIx (fVar 2) (fVar 4)) fNil))) (fC (.bool true)))
      (sPut (fVar 3) (fTup (fCons (fVar 6) (fCons (fOp opIx (fVar 2) (fVar 5)) fNil))) (fC (.bool true))))
noncomputable def ft_law_seen_in_1 : FG := (tTupA 2 (tCons (tN 4) (tCons (tN 5) tNil)))
noncomputable def fu_law_seen_in_1 : FS := (sSq (sFr (iSeq (fSl (fVar 2) (fPart (fOp opAdd (fVar 4) (fC (.int 1)))) (fPart (fVar 5)))) ft_law_seen_in_2 fu_law_seen_in_2)
    (sSet (fCall fn_law_turned false (fCons (fVar 2) (fCons (fTup (fCons (fVar 4) (fCons (fVar 5) fNil))) fNil))) (tN 2)))
noncomputable def b_law_seen_in : FS :=
  (sSq (sP2 2 3 (fCons (fRg1 true (fVar 0)) (fCons fDict0T fNil)))
  (sSq (sFr (iSeq (fVar 1)) ft_law_seen_in_1 fu_law_seen_in_1)
  (sRt (fTup (fCons (fVar 2) (fCons (fCl clSortT (fCons (fVar 3) fNil)) fNil))))))
noncomputable def fn_law_seen_in : Fn := mkFn 7 b_law_seen_in
theorem dput_tE {D : List (List Int)} (a b : Int) (hl : D.length < 100000) : dPut (.dT (tE D)) (.tuple [.int a, .int b]) (.bool true) = some (.dT (tE (addK D [a, b]))) := by
  have k1 : tkeyOf (.tuple [.int a, .int b]) = some (kR [a, b]) := tkey_row [a, b]
  show (if (tE D).length < 100000 then (tkeyOf (.tuple [.int a, .int b])).map fun k => Ct.dT (putP (tE D) k (.bool true)) else none) = _
  rw [if_pos (by rw [tE_len]; exact hl), k1, Option.map_some, put_tE]
theorem seen_low {n : Nat} (hn : n ≤ 16) {a0 a1 : Option R} {here : List Int} {i j a b : Nat} (ea : atI (zD here) (i : Int) = some (.int (a : Int))) (eb : atI (zD here) (j : Int) = some (.int (b : Int))) (ha : a < n) (hb : b < n) : ∀ (lows : List Int) (D : List (List Int)) (c : Option R), (∀ z ∈ lows, 0 ≤ z ∧ z < (n : Int)) → GoodK D →
    ∃ c', forGo ft_law_seen_in_2 fu_law_seen_in_2 (zD lows) ⟨[a0, a1, some (.d (.tuple (zD here))), some (.o 0), some (.d (.int (i : Int))), some (.d (.int (j : Int))), c], [.dT (tE D)]⟩ = .ok .nx ⟨[a0, a1, some (.d (.tuple (zD here))), some (.o 0), some (.d (.int (i : Int))), some (.d (.int (j : Int))), c'], [.dT (tE (lowsD D (a : Int) (b : Int) lows))]⟩
  | [], D, c, _, _ => ⟨c, rfl⟩
  | z :: lows, D, c, hz, g => by
    obtain ⟨h1, h2⟩ := hz z List.mem_cons_self
    obtain ⟨m, rfl⟩ : ∃ m : Nat, z = m := ⟨z.toNat, by omega⟩
    have g1 := g.add (a := m) (b := a) (by omega) (by omega)
    have g2 := g1.add (a := m) (b := b) (by omega) (by omega)
    obtain ⟨c', e⟩ := seen_low hn (a0 := a0) (a1 := a1) ea eb ha hb lows _ (some (.d (.int (m : Int)))) (fun y hy => hz y (List.mem_cons_of_mem _ hy)) g2
    refine ⟨c', ?_⟩
    have l1 := g.len
    have l2 := g1.len
    have d1 := dput_tE (D := D) (m : Int) (a : Int) (by omega)
    have d2 := dput_tE (D := addK D [(m : Int), (a : Int)]) (m : Int) (b : Int) (by omega)
    have st : forSt ft_law_seen_in_2 fu_law_seen_in_2 (.int (m : Int)) ⟨[a0, a1, some (.d (.tuple (zD here))), some (.o 0), some (.d (.int (i : Int))), some (.d (.int (j : Int))), c], [.dT (tE D)]⟩ = .ok .nx ⟨[a0, a1, some (.d (.tuple (zD here))), some (.o 0), some (.d (.int (i : Int))), some (.d (.int (j : Int))), some (.d (.int (m : Int)))], [.dT (tE (addK (addK D [(m : Int), (a : Int)]) [(m : Int), (b : Int)]))]⟩ := by
      simp! [ft_law_seen_in_2, fu_law_seen_in_2, ea, eb, d1, d2]
    show forGo _ _ (.int (m : Int) :: zD lows) _ = _
    rw [forGo_cons, st, bind_ok]
    exact e
theorem seen_go {n : Nat} (hn : n ≤ 16) (a0 a1 : Option R) : ∀ (ps : List (Nat × Nat)) (S : List Int × List (List Int)) (c d e : Option R), Rw n S.1 → GoodK S.2 → (∀ p ∈ ps, VP n p) → ∃ c' d' e', forGo ft_law_seen_in_1 fu_law_seen_in_1 (psD (ps.map castP)) ⟨[a0, a1, some (.d (.tuple (zD S.1))), some (.o 0), c, d, e], [.dT (tE S.2)]⟩ = .ok .nx ⟨[a0, a1, some (.d (.tuple (zD (ps.foldl seeS S).1))), some (.o 0), c', d', e'], [.dT (tE (ps.foldl seeS S).2)]⟩
  | [], S, c, d, e, _, _, _ => ⟨c, d, e, rfl⟩
  | p :: ps, S, c, d, e, r, g, hp => by
    have v := hp p List.mem_cons_self
    have v1 := v.1
    have v2 := v.2
    obtain ⟨a, ha, ea⟩ := r.at (i := p.1) (by omega)
    obtain ⟨b, hb, eb⟩ := r.at (i := p.2) (by omega)
    have a1' := at_getD (ns := S.1) (i := p.1) (by rw [r.len]; omega)
    have a2' := at_getD (ns := S.1) (i := p.2) (by rw [r.len]; omega)
    rw [ea] at a1'
    rw [eb] at a2'
    have hb' : ∀ z ∈ betw S.1 p.1 p.2, 0 ≤ z ∧ z < (n : Int) := fun z hz => r.bd z (by unfold betw at hz; exact List.mem_of_mem_drop (List.mem_of_mem_take hz))
    obtain ⟨c1, e1⟩ := seen_low hn (a0 := a0) (a1 := a1) a1' a2' ha hb (betw S.1 p.1 p.2) S.2 e hb' g
    have sw := turned_ok (ns := S.1) (i := p.1) (j := p.2) (by rw [r.len]; omega) (by omega) (by rw [r.len]; exact v2)
    have sw : fn_law_turned [.d (.tuple (zD S.1)), .d (.tuple [.int ((p.1 : Nat) : Int), .int ((p.2 : Nat) : Int)])] [] = _ := sw
    have c2 : cut (zD S.1) (some (((p.1 : Nat) : Int) + 1)) (some ((p.2 : Nat) : Int)) = zD (betw S.1 p.1 p.2) := by rw [cut_map, cut_betw (by omega) (by rw [r.len]; exact v2)]
    have gg := lows_good hn ha hb hb' g
    obtain ⟨c', d', e', ee⟩ := seen_go hn a0 a1 ps (seeS S p) (some (.d (.int ((p.1 : Nat) : Int)))) (some (.d (.int ((p.2 : Nat) : Int)))) c1 (r.swap v) (by
      show GoodK (lowsD S.2 (S.1.getD p.1 0) (S.1.getD p.2 0) (betw S.1 p.1 p.2))
      rw [ea, eb]; exact gg) (fun q hq => hp q (List.mem_cons_of_mem _ hq))
    refine ⟨c', d', e', ?_⟩
    have st : forSt ft_law_seen_in_1 fu_law_seen_in_1 (pD (castP p)) ⟨[a0, a1, some (.d (.tuple (zD S.1))), some (.o 0), c, d, e], [.dT (tE S.2)]⟩ = .ok .nx ⟨[a0, a1, some (.d (.tuple (zD (seeS S p).1))), some (.o 0), some (.d (.int ((p.1 : Nat) : Int))), some (.d (.int ((p.2 : Nat) : Int))), c1], [.dT (tE (seeS S p).2)]⟩ := by
      have ez : tE (seeS S p).2 = tE (lowsD S.2 (a : Int) (b : Int) (betw S.1 p.1 p.2)) := by
        show tE (lowsD S.2 (S.1.getD p.1 0) (S.1.getD p.2 0) (betw S.1 p.1 p.2)) = _
        rw [ea, eb]
      have ey : (seeS S p).1 = swapM S.1 p.1 p.2 := rfl
      rw [ez, ey]
      simp! [pD, castP, ft_law_seen_in_1, fu_law_seen_in_1, c2, e1, call_of sw]
    show forGo _ _ (pD (castP p) :: psD (ps.map castP)) _ = _
    rw [forGo_cons, st, bind_ok]
    exact ee
theorem seen_ok {n : Nat} {ps : List (Nat × Nat)} (hn : n ≤ 16) (hp : ∀ p ∈ ps, VP n p) : fn_law_seen_in [.d (.int (n : Int)), .d (.list (psD (ps.map castP)))] [] = .ok (.dat (.tuple [.tuple (zD (seeM n ps).1), .list ((srtL (seeM n ps).2).map tupD)])) [] := by
  obtain ⟨c, d, e, ee⟩ := seen_go hn (some (.d (.int (n : Int)))) (some (.d (.list (psD (ps.map castP))))) ps (rngI n, []) none none none (rw_rng n) ⟨List.nodup_nil, fun _ h => nomatch h⟩ hp
  have rg := fun g => rgT true n (by omega) g
  simp only [if_true] at rg
  have gd := (seeM_good hn hp).2
  have so : ∀ (sl : List (Option R)), clSortT ⟨sl, [.dT (tE (seeM n ps).2)]⟩ [.o 0] = some (.d (.list ((srtL (seeM n ps).2).map tupD))) := fun sl => clSortT_d _ _ rfl (tE_keys _) (.inr gd.ne)
  have ee : forGo ft_law_seen_in_1 fu_law_seen_in_1 (psD (ps.map castP)) ⟨[some (.d (.int (n : Int))), some (.d (.list (psD (ps.map castP)))), some (.d (.tuple (zD (rngI n)))), some (.o 0), none, none, none], [.dT []]⟩ = .ok .nx ⟨[some (.d (.int (n : Int))), some (.d (.list (psD (ps.map castP)))), some (.d (.tuple (zD (seeM n ps).1))), some (.o 0), c, d, e], [.dT (tE (seeM n ps).2)]⟩ := ee
  simp! [fn_law_seen_in, b_law_seen_in, fRg1_ap, rg, ee, so]
noncomputable def ct_law_tests_1 : FG := (tN 9)
noncomputable def cc_law_tests_1 : FT := fYes
noncomputable def cf_law_tests_1 : FE := (fTup (fCons (fVar 8) (fCons (fVar 9) fNil)))
noncomputable def ft_law_tests_2 : FG := (tN 8)
noncomputable def fu_law_tests_2 : FS := (sSet (fOp opAdd (fVar 7) (fLc (iRg2 (fCons (fOp opAdd (fVar 8) (fC (.int 2))) (fCons (fVar 1) fNil))) ct_law_tests_1 cc_law_tests_1 cf_law_tests_1 [9])) (tN 7))
noncomputable def ft_law_tests_1 : FG := (tN 6)
noncomputable def fu_law_tests_1 : FS := (sSq (sSet (fCall fn_law_swaps false (fCons (fVar 4) fNil)) (tN 7))
    (sSq (sIte (fOrT (fTst (fOp opLt (fCall (fn_law_take 4) false (fCons (fVar 0) (fCons (fC (.int 24)) fNil))) (fVar 3))) (fTst (fOp opEq (fVar 7) (fLst fNil)))) (sSq (sSet (fLst fNil) (tN 7))
      (sFr (iRg1 (fCons (fVar 1) fNil)) ft_law_tests_2 fu_law_tests_2)) sNx)
    (sIte (fTst (fOp opNe (fVar 7) (fLst fNil))) (sSq (sEx (fMt mtAppend (fVar 5) (fCons (fCall fn_law_of false (fCons (fVar 0) (fCons (fVar 7) fNil))) fNil)))
      (sSet (fCall fn_law_turned false (fCons (fVar 4) (fCons (fOp opIx (fVar 5) (fNeg (fC (.int 1)))) fNil))) (tN 4))) sNx)))
noncomputable def b_law_tests : FS :=
  (sSq (sP2 4 5 (fCons (fCl clTuple (fCons (fCall fn_law_strewn false (fCons (fVar 0) (fCons (fRg2 false (fC (.int 1)) (fOp opAdd (fVar 1) (fC (.int 1)))) fNil))) fNil)) (fCons (fLstO fNil) fNil)))
  (sSq (sFr (iRg1 (fCons (fCall (fn_law_take 4) false (fCons (fVar 0) (fCons (fOp opAdd (fVar 2) (fC (.int 1))) fNil))) fNil)) ft_law_tests_1 fu_law_tests_1)
  (sRt (fVar 5))))
noncomputable def fn_law_tests : Fn := mkFn 10 b_law_tests
def allP (n : Nat) : Nat → List (Nat × Nat)
  | 0 => []
  | k + 1 => allP n k ++ (List.range (n - (k + 2))).map fun m => (k, k + 2 + m)
theorem allP_VP (n : Nat) : ∀ k, k ≤ n → ∀ p ∈ allP n k, VP n p
  | 0, _, p, hp => by cases hp
  | k + 1, hk, p, hp => by
    rcases List.mem_append.mp hp with h | h
    · exact allP_VP n k (by omega) p h
    · obtain ⟨m, hm, rfl⟩ := List.mem_map.mp h
      have := List.mem_range.mp hm
      exact ⟨by show k + 2 ≤ k + 2 + m; omega, by show k + 2 + m < n; omega⟩
theorem allP_len (n : Nat) : ∀ k, (allP n k).length ≤ k * n
  | 0 => Nat.zero_le _
  | k + 1 => by
    have := allP_len n k
    show (allP n k ++ (List.range (n - (k + 2))).map fun m => (k, k + 2 + m)).length ≤ _
    rw [List.length_append, List.length_map, List.length_range, Nat.succ_mul]
    omega
theorem exI_VP {ns : List Int} : ∀ p ∈ exchM ns, VP ns.length p := fun p hp => by
  obtain ⟨i, j⟩ := p
  obtain ⟨h1, h2, -⟩ := exch_mem.mp hp
  exact ⟨h1, h2⟩
noncomputable def tailT : FS := sIte (fTst (fOp opNe (fVar 7) (fLst fNil))) (sSq (sEx (fMt mtAppend (fVar 5) (fCons (fCall fn_law_of false (fCons (fVar 0) (fCons (fVar 7) fNil))) fNil)))
      (sSet (fCall fn_law_turned false (fCons (fVar 4) (fCons (fOp opIx (fVar 5) (fNeg (fC (.int 1)))) fNil))) (tN 4))) sNx
theorem tail_ok {n k : Nat} {bx : List PyData} {here : List Int} {ps L : List (Nat × Nat)} (h : BoxOk n bx) (hn : n < 800000000) (hk : k < 100) (hl : here.length = k) (hL : ∀ p ∈ L, VP k p) (lL : L.length ≤ 20000) (hp : ∀ p ∈ ps, VP k p) (lp : ps.length < 1000) (a1 a2 a3 a6 a8 a9 : Option R) :
    ∃ (here' : List Int) (ps' : List (Nat × Nat)) (bx' : List PyData), tailT ⟨[some (.o 0), a1, a2, a3, some (.d (.tuple (zD here))), some (.o 1), a6, some (.d (.list (psD (L.map castP)))), a8, a9], [.lst bx, .lst (psD (ps.map castP))]⟩ = .ok .nx ⟨[some (.o 0), a1, a2, a3, some (.d (.tuple (zD here'))), some (.o 1), a6, some (.d (.list (psD (L.map castP)))), a8, a9], [.lst bx', .lst (psD (ps'.map castP))]⟩ ∧ here'.length = k ∧ (∀ p ∈ ps', VP k p) ∧ ps'.length ≤ ps.length + 1 ∧ BoxOk (n + 8) bx' := by
  cases hx : L with
  | nil =>
    refine ⟨here, ps, bx, ?_, hl, hp, by omega, h.mono (by omega)⟩
    show tailT ⟨[some (.o 0), a1, a2, a3, some (.d (.tuple (zD here))), some (.o 1), a6, some (.d (.list [])), a8, a9], [.lst bx, .lst (psD (ps.map castP))]⟩ = .ok .nx ⟨[some (.o 0), a1, a2, a3, some (.d (.tuple (zD here))), some (.o 1), a6, some (.d (.list [])), a8, a9], [.lst bx, .lst (psD (ps.map castP))]⟩
    unfold tailT
    simp! [shaped_nil, eqv_nil0]
  | cons z zs =>
    rw [← hx]
    obtain ⟨d, bx5, hd, e5, hb5⟩ := of_ok (x := .list (psD (L.map castP))) (ds := psD (L.map castP)) h (by omega) sqL (by rw [hx]; simp) (by rw [List.length_map, List.length_map]; omega)
    obtain ⟨p0, hp0, rfl⟩ := List.mem_map.mp hd
    obtain ⟨p, hpm, rfl⟩ := List.mem_map.mp hp0
    have v := hL p hpm
    have v1 := v.1
    have v2 := v.2
    have q6 := turned_ok (ns := here) (i := p.1) (j := p.2) (by omega) (by omega) (by omega)
    have q6 : fn_law_turned [.d (.tuple (zD here)), .d (pD (castP p))] [] = _ := q6
    have c5 := fun (sl : List (Option R)) => callB_of e5 (j := 0) (g := ⟨sl, [.lst bx, .lst (psD (ps.map castP))]⟩) false rfl
    have ne : PyData.eqv (.list (psD (L.map castP))) (.list []) = false := by rw [hx]; exact eqv_nil
    have ep : psD ((ps ++ [p]).map castP) = psD (ps.map castP) ++ [pD (castP p)] := by unfold psD; rw [List.map_append, List.map_append]; rfl
    have lp' : ps.length < 100000 := by omega
    refine ⟨swapM here p.1 p.2, ps ++ [p], bx5, ?_, by rw [(swapM_perm (by omega) (by omega)).length_eq, hl], fun q hq => ?_, by rw [List.length_append]; exact Nat.le_refl _, hb5⟩
    · rw [ep]
      unfold tailT
      simp! [shaped_nil, ne, c5, lp', atI_m1, call_of q6]
    · rcases List.mem_append.mp hq with w | w
      · exact hp q w
      · rw [List.mem_singleton.mp w]; exact v
theorem all_ok {k : Nat} (hk : k < 100) (a0 a2 a3 a4 a5 a6 a8 a9 : Option R) (ce : List Ct) : ∃ b8, forGo ft_law_tests_2 fu_law_tests_2 (rng 0 k) ⟨[a0, some (.d (.int (k : Int))), a2, a3, a4, a5, a6, some (.d (.list [])), a8, a9], ce⟩ = .ok .nx ⟨[a0, some (.d (.int (k : Int))), a2, a3, a4, a5, a6, some (.d (.list (psD ((allP k k).map castP)))), b8, a9], ce⟩ := by
  obtain ⟨g', e, b8, rfl⟩ := forGo_inv (emb := fun (i : Nat) => PyData.int (i : Int)) (t := ft_law_tests_2) (u := fu_law_tests_2) (xs := List.range k) (g := ⟨[a0, some (.d (.int (k : Int))), a2, a3, a4, a5, a6, some (.d (.list [])), a8, a9], ce⟩)
    (fun i g => ∃ b8, g = ⟨[a0, some (.d (.int (k : Int))), a2, a3, a4, a5, a6, some (.d (.list (psD ((allP k i).map castP)))), b8, a9], ce⟩) ⟨a8, rfl⟩ (fun i z g hz hI => by
      obtain ⟨b8, rfl⟩ := hI
      obtain ⟨hi, ez⟩ : i < k ∧ z = i := by
        have := List.getElem?_eq_some_iff.mp hz
        obtain ⟨h1, h2⟩ := this
        rw [List.getElem_range] at h2
        exact ⟨by simpa using h1, h2.symm⟩
      subst ez
      have rk : rOk ((z : Int) + 2) = true := decide_eq_true (by omega)
      have rk2 : rOk (k : Int) = true := decide_eq_true (by omega)
      have s1 := fun (sl : List (Option R)) (hs : sl = [a0, some (.d (.int (k : Int))), a2, a3, a4, a5, a6, some (.d (.list (psD ((allP k z).map castP)))), some (.d (.int (z : Int))), a9]) => lcGo_map (emb := fun (m : Nat) => PyData.int ((z : Int) + 2 + (m : Int))) (t := ct_law_tests_1) (c := cc_law_tests_1) (f := cf_law_tests_1) (sl := sl) (ws := [9]) (ce := ce) (fun m => pD (castP (z, z + 2 + m))) (xs := List.range (k - (z + 2))) (by rw [List.length_range]; omega) (fun m _ => by
        have e1 : ((z : Int) + 2 + (m : Int)) = ((z + 2 + m : Nat) : Int) := by omega
        subst hs
        simp! [lcSt, ct_law_tests_1, cc_law_tests_1, cf_law_tests_1, pD, castP, e1])
      have s1 := s1 _ rfl
      have er : rng ((z : Int) + 2) ((k : Int) - ((z : Int) + 2)).toNat = (List.range (k - (z + 2))).map fun (m : Nat) => PyData.int ((z : Int) + 2 + (m : Int)) := by
        have : ((k : Int) - ((z : Int) + 2)).toNat = k - (z + 2) := by omega
        rw [this]; rfl
      have ea : psD ((allP k (z + 1)).map castP) = psD ((allP k z).map castP) ++ (List.range (k - (z + 2))).map fun m => pD (castP (z, z + 2 + m)) := by
        show psD ((allP k z ++ (List.range (k - (z + 2))).map fun m => (z, z + 2 + m)).map castP) = _
        unfold psD
        rw [List.map_append, List.map_append, List.map_map, List.map_map, List.map_map]
        rfl
      have l1 := allP_len k z
      have l2 : z * k ≤ 100 * 100 := Nat.mul_le_mul (by omega) (by omega)
      have l3 : (allP k z).length + (k - (z + 2)) ≤ 100000 := by omega
      refine ⟨_, .inl ?_, some (.d (.int (z : Int))), rfl⟩
      rw [ea]
      simp! [ft_law_tests_2, fu_law_tests_2, rk, rk2, er, s1, cat2, List.length_range, l3])
  rw [← rng0] at e
  rw [List.length_range] at e
  exact ⟨b8, e⟩
theorem tests_ok {n k most : Nat} {odds : Int} {bx : List PyData} (h : BoxOk n bx) (hn : n < 700000000) (hk : k < 100) (hm : most < 500) : ∃ (ps : List (Nat × Nat)) (bx' : List PyData), fn_law_tests [.o 0, .d (.int (k : Int)), .d (.int (most : Int)), .d (.int odds)] [.lst bx] = .ok (.newC (.lst (psD (ps.map castP)))) [.lst bx'] ∧ (∀ p ∈ ps, VP k p) ∧ ps.length ≤ most ∧ BoxOk (n + 2000 + 24 * most) bx' := by
  have er : rng 1 k = (List.range k).map fun (m : Nat) => PyData.int (1 + (m : Int)) := rfl
  obtain ⟨es, bx1, ep, e1, hb1⟩ := strewn_ok (x := .list (rng 1 k)) (ds := rng 1 k) h (by rw [er, List.length_map, List.length_range]; omega) sqL (by rw [er, List.length_map, List.length_range]; omega) (by
    rw [er, List.all_map, List.all_eq_true]
    intro m _
    rfl)
  rw [er, List.length_map, List.length_range] at hb1
  obtain ⟨here, eh⟩ : ∃ here : List Int, es = zD here := by
    have : ∀ d ∈ es, ∃ z : Int, d = .int z := fun d hd => by
      have := ep.mem_iff.mp hd
      obtain ⟨m, _, rfl⟩ := List.mem_map.mp this
      exact ⟨_, rfl⟩
    clear e1 ep
    induction es with
    | nil => exact ⟨[], rfl⟩
    | cons d es ih =>
      obtain ⟨l, e⟩ := ih fun d hd => this d (List.mem_cons_of_mem _ hd)
      obtain ⟨z, rfl⟩ := this d List.mem_cons_self
      exact ⟨z :: l, by rw [e]; rfl⟩
  subst eh
  have lh : here.length = k := by
    have := ep.length_eq
    rw [er, List.length_map, List.length_map, List.length_range] at this
    exact this
  have rk : rgK false 1 ((k : Int) + 1) = fun g => .ok (.d (.list (rng 1 k))) g := by
    funext g
    have e2 : ((k : Int) + 1 - 1).toNat = k := by omega
    have hr : rgOk 1 ((k : Int) + 1) = true := decide_eq_true (by omega)
    unfold rgK
    rw [hr, e2]
    rfl
  have fr2 : ∀ (fa fb : FE) (g : G), fRg2 false fa fb g = (fa g).bind fun r1 g1 => (fb g1).bind fun r2 g2 => match r1, r2 with
    | .d (.int i), .d (.int j) => rgK false i j g2
    | _, _ => .no := fun _ _ _ => rfl
  have c1 := fun (sl : List (Option R)) => callB_new e1 (j := 0) (g := ⟨sl, [.lst bx]⟩) rfl
  obtain ⟨r, bx2, e2, r0, r1, hb2⟩ := take4 (below := (most : Int) + 1) hb1 (by omega) (by omega) (by omega)
  obtain ⟨c, rfl⟩ : ∃ c : Nat, r = c := ⟨r.toNat, by omega⟩
  have c2 := fun (sl : List (Option R)) => callB_of e2 (j := 0) (g := ⟨sl, [.lst bx1, .lst []]⟩) false rfl
  obtain ⟨g', e, here2, ps, a6, a7, a8, bx', rfl, lh2, lp, vp, hb'⟩ := forGo_inv (emb := fun (i : Nat) => PyData.int (i : Int)) (t := ft_law_tests_1) (u := fu_law_tests_1) (xs := List.range c) (g := ⟨[some (.o 0), some (.d (.int (k : Int))), some (.d (.int (most : Int))), some (.d (.int odds)), some (.d (.tuple (zD here))), some (.o 1), none, none, none, none], [.lst bx2, .lst []]⟩)
    (fun i g => ∃ (here2 : List Int) (ps : List (Nat × Nat)) (a6 a7 a8 : Option R) (bx' : List PyData), g = ⟨[some (.o 0), some (.d (.int (k : Int))), some (.d (.int (most : Int))), some (.d (.int odds)), some (.d (.tuple (zD here2))), some (.o 1), a6, a7, a8, none], [.lst bx', .lst (psD (ps.map castP))]⟩ ∧ here2.length = k ∧ ps.length ≤ i ∧ (∀ p ∈ ps, VP k p) ∧ BoxOk (n + 8 * k + 8 + 16 * i) bx') ⟨here, [], none, none, none, bx2, rfl, lh, Nat.le_refl _, (fun _ h => nomatch h), hb2⟩ (fun i z g hz hI => by
      obtain ⟨here2, ps, a6, a7, a8, bx', rfl, lh2, lp, vp, hb'⟩ := hI
      have hi : i < c := by
        have := (List.getElem?_eq_some_iff.mp hz).1
        simpa using this
      have sw := swaps_ok (x := .tuple (zD here2)) sqT (show here2.length < 100 by omega)
      obtain ⟨w, bx3, e3, w0, w1, hb3⟩ := take4 (below := 24) hb' (by omega) (by omega) (by omega)
      have c3 := fun (sl : List (Option R)) => callB_of e3 (j := 0) (g := ⟨sl, [.lst bx', .lst (psD (ps.map castP))]⟩) false rfl
      have rk : rOk (k : Int) = true := rOk_of (by omega) (by omega)
      obtain ⟨T, eT⟩ : ∃ T, tailT = T := ⟨_, rfl⟩
      have eu : fu_law_tests_1 = (sSq (sSet (fCall fn_law_swaps false (fCons (fVar 4) fNil)) (tN 7))
    (sSq (sIte (fOrT (fTst (fOp opLt (fCall (fn_law_take 4) false (fCons (fVar 0) (fCons (fC (.int 24)) fNil))) (fVar 3))) (fTst (fOp opEq (fVar 7) (fLst fNil)))) (sSq (sSet (fLst fNil) (tN 7))
      (sFr (iRg1 (fCons (fVar 1) fNil)) ft_law_tests_2 fu_law_tests_2)) sNx) T)) := by rw [← eT]; rfl
      have he : exI here2 = (exchM here2).map castP := rfl
      have lx : (exchM here2).length ≤ 20000 := by
        have := sightsM_len here2 (by omega)
        have h2 : (exchM here2).length ≤ (sightsM here2).length := by unfold exchM; exact List.length_filter_le _ _
        omega
      have la : (allP k k).length ≤ 20000 := by
        have h1 := allP_len k k
        have h2 : k * k ≤ 100 * 100 := Nat.mul_le_mul (by omega) (by omega)
        omega
      have goal : ∀ (L : List (Nat × Nat)) (b8 : Option R), (∀ p ∈ L, VP k p) → L.length ≤ 20000 → forSt ft_law_tests_1 fu_law_tests_1 (.int (z : Int)) ⟨[some (.o 0), some (.d (.int (k : Int))), some (.d (.int (most : Int))), some (.d (.int odds)), some (.d (.tuple (zD here2))), some (.o 1), a6, a7, a8, none], [.lst bx', .lst (psD (ps.map castP))]⟩ = T ⟨[some (.o 0), some (.d (.int (k : Int))), some (.d (.int (most : Int))), some (.d (.int odds)), some (.d (.tuple (zD here2))), some (.o 1), some (.d (.int (z : Int))), some (.d (.list (psD (L.map castP)))), b8, none], [.lst bx3, .lst (psD (ps.map castP))]⟩ → ∃ g2, (forSt ft_law_tests_1 fu_law_tests_1 (.int (z : Int)) ⟨[some (.o 0), some (.d (.int (k : Int))), some (.d (.int (most : Int))), some (.d (.int odds)), some (.d (.tuple (zD here2))), some (.o 1), a6, a7, a8, none], [.lst bx', .lst (psD (ps.map castP))]⟩ = .ok .nx g2 ∨ forSt ft_law_tests_1 fu_law_tests_1 (.int (z : Int)) ⟨[some (.o 0), some (.d (.int (k : Int))), some (.d (.int (most : Int))), some (.d (.int odds)), some (.d (.tuple (zD here2))), some (.o 1), a6, a7, a8, none], [.lst bx', .lst (psD (ps.map castP))]⟩ = .ok .ct g2) ∧ ∃ (here2 : List Int) (ps : List (Nat × Nat)) (a6 a7 a8 : Option R) (bx' : List PyData), g2 = ⟨[some (.o 0), some (.d (.int (k : Int))), some (.d (.int (most : Int))), some (.d (.int odds)), some (.d (.tuple (zD here2))), some (.o 1), a6, a7, a8, none], [.lst bx', .lst (psD (ps.map castP))]⟩ ∧ here2.length = k ∧ ps.length ≤ i + 1 ∧ (∀ p ∈ ps, VP k p) ∧ BoxOk (n + 8 * k + 8 + 16 * (i + 1)) bx' := fun L b8 hL lL st => by
        obtain ⟨here3, ps3, bx4, t1, t2, t3, t4, t5⟩ := tail_ok hb3 (by omega) hk lh2 hL lL vp (by omega) (some (.d (.int (k : Int)))) (some (.d (.int (most : Int)))) (some (.d (.int odds))) (some (.d (.int (z : Int)))) b8 none
        rw [eT] at t1
        exact ⟨_, .inl (st.trans t1), here3, ps3, _, _, _, bx4, rfl, t2, by omega, t3, t5.mono (by omega)⟩
      by_cases hw : w < odds
      · obtain ⟨b8, ea⟩ := all_ok hk (some (.o 0)) (some (.d (.int (most : Int)))) (some (.d (.int odds))) (some (.d (.tuple (zD here2)))) (some (.o 1)) (some (.d (.int (z : Int)))) a8 none [.lst bx3, .lst (psD (ps.map castP))]
        refine goal (allP k k) b8 (allP_VP k k (Nat.le_refl _)) la ?_
        rw [eu]
        simp! [ft_law_tests_1, call_of sw, c3, hw, rk, Int.toNat_natCast, ea]
      · by_cases hx : exI here2 = []
        · obtain ⟨b8, ea⟩ := all_ok hk (some (.o 0)) (some (.d (.int (most : Int)))) (some (.d (.int odds))) (some (.d (.tuple (zD here2)))) (some (.o 1)) (some (.d (.int (z : Int)))) a8 none [.lst bx3, .lst (psD (ps.map castP))]
          refine goal (allP k k) b8 (allP_VP k k (Nat.le_refl _)) la ?_
          rw [eu]
          rw [hx] at sw
          have sw : fn_law_swaps [.d (.tuple (zD here2))] [] = .ok (.dat (.list [])) [] := sw
          simp! [ft_law_tests_1, call_of sw, c3, hw, shaped_nil, eqv_nil0, rk, Int.toNat_natCast, ea]
        · refine goal (exchM here2) a8 (fun p hp => lh2 ▸ exI_VP p hp) lx ?_
          have ne : PyData.eqv (.list (psD (exI here2))) (.list []) = false := by
            cases hx' : exI here2 with
            | nil => exact absurd hx' hx
            | cons a b => exact eqv_nil
          rw [eu, ← he]
          simp! [ft_law_tests_1, call_of sw, c3, hw, shaped_nil, ne])
  rw [← rng0] at e
  rw [List.length_range] at lp hb'
  have ro : rOk (c : Int) = true := rOk_of (by omega) (by omega)
  refine ⟨ps, bx', ?_, vp, by omega, hb'.mono (by omega)⟩
  simp! [fn_law_tests, b_law_tests, fr2, rk, c1, c2, ro, Int.toNat_natCast, e]
end DL
set_option Elab.async false
set_option linter.all false
set_option maxRecDepth 100000
set_option maxHeartbeats 1000000
set_option autoImplicit false
namespace DL
open PySem PySem.Spec PyProof.Rows L2
noncomputable def ct_law_lists_1 (rec : Fn) : FG := (tN 1)
noncomputable def cc_law_lists_1 (rec : Fn) : FT := fYes
noncomputable def cf_law_lists_1 (rec : Fn) : FE := (fCall rec false (fCons (fVar 1) fNil))
noncomputable def b_law_lists (rec : Fn) : FS :=
  (sRt (fIf (fTst (fIsi2 "list" "tuple" (fVar 0))) (fLcO (iSeq (fVar 0)) (ct_law_lists_1 rec) (cc_law_lists_1 rec) (cf_law_lists_1 rec) [1]) (fVar 0)))
noncomputable def fn_law_lists : Nat → Fn
  | 0 => fun _ _ => .no
  | n + 1 => mkFn 2 (b_law_lists (fn_law_lists n))
theorem lists_int (k : Nat) (i : Int) : fn_law_lists (k + 1) [.d (.int i)] [] = .ok (.dat (.int i)) [] := by
  simp! only [fn_law_lists, b_law_lists, Bool.or_false, Bool.or_self]
theorem lists_z (k : Nat) {ns : List Int} {x : PyData} (hx : Sq x (zD ns)) (hl : ns.length ≤ 100000) : fn_law_lists (k + 2) [.d x] [] = .ok (.newC (.lst (zD ns))) [] := by
  have ef : fn_law_lists (k + 2) = mkFn 2 (b_law_lists (fn_law_lists (k + 1))) := rfl
  have li := lists_int k
  rw [ef]
  obtain ⟨F, eF⟩ : ∃ F, fn_law_lists (k + 1) = F := ⟨_, rfl⟩
  rw [eF] at li ⊢
  have s := lcGo_map (emb := PyData.int) (t := ct_law_lists_1 F) (c := cc_law_lists_1 F) (f := cf_law_lists_1 F) (sl := [some (.d x), none]) (ws := [1]) (ce := []) PyData.int (xs := ns) hl (fun i _ => by
    simp! [lcSt, ct_law_lists_1, cc_law_lists_1, cf_law_lists_1, call_of (li i)])
  rcases hx with rfl | rfl <;> simp! only [b_law_lists, s, Bool.or_false, Bool.or_true, Bool.or_self]
theorem lists_ps (k : Nat) {ps : List (Int × Int)} {x : PyData} (hx : Sq x (psD ps)) (hl : ps.length ≤ 100000) : fn_law_lists (k + 3) [.d x] [] = .ok (.newC (.lst (ps.map fun p => .list [.int p.1, .int p.2]))) [] := by
  have ef : fn_law_lists (k + 3) = mkFn 2 (b_law_lists (fn_law_lists (k + 2))) := rfl
  have li := fun (p : Int × Int) => lists_z k (ns := [p.1, p.2]) (x := pD p) sqT (by simp)
  rw [ef]
  obtain ⟨F, eF⟩ : ∃ F, fn_law_lists (k + 2) = F := ⟨_, rfl⟩
  rw [eF] at li ⊢
  have s := lcGo_map (emb := pD) (t := ct_law_lists_1 F) (c := cc_law_lists_1 F) (f := cf_law_lists_1 F) (sl := [some (.d x), none]) (ws := [1]) (ce := []) (fun p => .list [.int p.1, .int p.2]) (xs := ps) hl (fun p _ => by
    have r := li p
    have r : F [.d (pD p)] [] = .ok (.newC (.lst [.int p.1, .int p.2])) [] := r
    simp! [lcSt, ct_law_lists_1, cc_law_lists_1, cf_law_lists_1, call_lst r])
  rcases hx with rfl | rfl <;> simp! only [b_law_lists, s, Bool.or_false, Bool.or_true, Bool.or_self]
end DL
set_option Elab.async false
set_option linter.all false
set_option maxRecDepth 100000
set_option maxHeartbeats 1000000
set_option autoImplicit false
namespace DL
open PySem PySem.Spec PyProof.Rows L2
end DL
set_option Elab.async false
set_option linter.all false
set_option maxRecDepth 100000
set_option maxHeartbeats 1000000
set_option autoImplicit false
namespace DL
open PySem PySem.Spec PyProof.Rows L2
noncomputable def ct_law_is_free_2 : FG := (tTupA 2 (tCons (tN 5) (tCons (tN 6) tNil)))
noncomputable def cc_law_is_free_2 : FT := (fTst (fOp opEq (fVar 6) (fVar 4)))
noncomputable def cf_law_is_free_2 : FE := (fOp opIn (fVar 5) (fVar 2))
noncomputable def ct_law_is_free_1 : FG := (tN 4)
noncomputable def cc_law_is_free_1 : FT := (fNotT (fTst (fCl clAny (fCons (fLc (iSeq (fVar 1)) ct_law_is_free_2 cc_law_is_free_2 cf_law_is_free_2 [5, 6]) fNil))))
noncomputable def cf_law_is_free_1 : FE := (fVar 4)
noncomputable def ct_law_is_free_3 : FG := (tN 4)
noncomputable def cc_law_is_free_3 : FT := (fTst (fOp opNotIn (fVar 4) (fVar 3)))
noncomputable def cf_law_is_free_3 : FE := (fVar 4)
noncomputable def wt_law_is_free_1 : FT := (fTst (fOp opNe (fVar 2) (fLst fNil)))
noncomputable def wu_law_is_free_1 : FS := (sSq (sSet (fLc (iSeq (fVar 2)) ct_law_is_free_1 cc_law_is_free_1 cf_law_is_free_1 [4]) (tN 3))
    (sSq (sIte (fTst (fOp opEq (fVar 3) (fLst fNil))) (sRt (fC (.bool false))) sNx)
    (sSet (fLc (iSeq (fVar 2)) ct_law_is_free_3 cc_law_is_free_3 cf_law_is_free_3 [4]) (tN 2))))
noncomputable def b_law_is_free : FS :=
  (sSq (sSet (fRg1 false (fVar 0)) (tN 2))
  (sSq (sWh wt_law_is_free_1 wu_law_is_free_1)
  (sRt (fC (.bool true)))))
noncomputable def fn_law_is_free : Fn := mkFn 7 b_law_is_free
theorem readyF_lc {P : List (List Int)} (h2 : ∀ k ∈ P, ∃ x y : Int, k = [x, y]) (lP : P.length ≤ 300) {left : List Int} (ll : left.length ≤ 100) (a0 a3 : Option R) (ce : List Ct) :
    lcGo ct_law_is_free_1 cc_law_is_free_1 cf_law_is_free_1 [a0, some (.d (.list (P.map tupD))), some (.d (.list (zD left))), a3, none, none, none] [4] (zD left) [] ce = .ok (zD (readyF P left)) ⟨[a0, some (.d (.list (P.map tupD))), some (.d (.list (zD left))), a3, none, none, none], ce⟩ := by
  have s1 := lcGo_pure (emb := PyData.int) (t := ct_law_is_free_1) (c := cc_law_is_free_1) (f := cf_law_is_free_1) (sl := [a0, some (.d (.list (P.map tupD))), some (.d (.list (zD left))), a3, none, none, none]) (ws := [4]) (ce := ce) (fun s => !((P.filter fun k => decide (k.getD 1 0 = s)).any fun k => decide (k.getD 0 0 ∈ left))) PyData.int left [] (by simp; omega) (fun s hs => by
    have ei : ∀ g (z : Int), inB g (.d (.int z)) (.d (.list (zD left))) = some (decide (z ∈ left)) := fun g z => inB_sq sqL g
    have s2 := lcGo_pure (emb := tupD) (t := ct_law_is_free_2) (c := cc_law_is_free_2) (f := cf_law_is_free_2) (sl := [a0, some (.d (.list (P.map tupD))), some (.d (.list (zD left))), a3, some (.d (.int s)), none, none]) (ws := [5, 6]) (ce := ce) (fun k => decide (k.getD 1 0 = s)) (fun k => PyData.bool (decide (k.getD 0 0 ∈ left))) P [] (by simp; omega) (fun k hk => by
      obtain ⟨x, y, rfl⟩ := h2 k hk
      have e1 : tupD [x, y] = .tuple [.int x, .int y] := rfl
      have e2 : ([x, y] : List Int).getD 1 0 = y := rfl
      have e3 : ([x, y] : List Int).getD 0 0 = x := rfl
      rw [e1, e2, e3]
      obtain ⟨PP, ePP⟩ : ∃ PP, P.map tupD = PP := ⟨_, rfl⟩
      rw [ePP]
      obtain ⟨LL, eLL⟩ : ∃ LL, zD left = LL := ⟨_, rfl⟩
      rw [eLL] at ei ⊢
      by_cases q : y = s
      · simp! [lcSt, ct_law_is_free_2, cc_law_is_free_2, cf_law_is_free_2, ei, q]
      · simp! [lcSt, ct_law_is_free_2, cc_law_is_free_2, cf_law_is_free_2, ei, q])
    rw [List.nil_append] at s2
    have eb : ((P.filter fun k => decide (k.getD 1 0 = s)).map fun k => PyData.bool (decide (k.getD 0 0 ∈ left))) = ((P.filter fun k => decide (k.getD 1 0 = s)).map fun k => decide (k.getD 0 0 ∈ left)).map PyData.bool := by rw [List.map_map]; rfl
    rw [eb] at s2
    have ea : ((P.filter fun k => decide (k.getD 1 0 = s)).map fun k => decide (k.getD 0 0 ∈ left)).any id = (P.filter fun k => decide (k.getD 1 0 = s)).any fun k => decide (k.getD 0 0 ∈ left) := by rw [List.any_map]; rfl
    obtain ⟨PP, ePP⟩ : ∃ PP, P.map tupD = PP := ⟨_, rfl⟩
    rw [ePP] at s2 ⊢
    obtain ⟨BB, eBB⟩ : ∃ BB, ((P.filter fun k => decide (k.getD 1 0 = s)).map fun k => decide (k.getD 0 0 ∈ left)) = BB := ⟨_, rfl⟩
    rw [eBB] at s2 ea
    cases q : ((P.filter fun k => decide (k.getD 1 0 = s)).any fun k => decide (k.getD 0 0 ∈ left)) with
    | true => rw [q] at ea; simp! [lcSt, ct_law_is_free_1, cc_law_is_free_1, cf_law_is_free_1, s2, ea]
    | false => rw [q] at ea; simp! [lcSt, ct_law_is_free_1, cc_law_is_free_1, cf_law_is_free_1, s2, ea])
  rw [List.nil_append] at s1
  exact s1
theorem restF_lc {P : List (List Int)} {left : List Int} (ll : left.length ≤ 100) (a0 a1 a2 : Option R) (ce : List Ct) :
    lcGo ct_law_is_free_3 cc_law_is_free_3 cf_law_is_free_3 [a0, a1, a2, some (.d (.list (zD (readyF P left)))), none, none, none] [4] (zD left) [] ce = .ok (zD (restF P left)) ⟨[a0, a1, a2, some (.d (.list (zD (readyF P left)))), none, none, none], ce⟩ := by
  have ei : ∀ g (z : Int), inB g (.d (.int z)) (.d (.list (zD (readyF P left)))) = some (decide (z ∈ readyF P left)) := fun g z => inB_sq sqL g
  have s1 := lcGo_pure (emb := PyData.int) (t := ct_law_is_free_3) (c := cc_law_is_free_3) (f := cf_law_is_free_3) (sl := [a0, a1, a2, some (.d (.list (zD (readyF P left)))), none, none, none]) (ws := [4]) (ce := ce) (fun s => decide (s ∉ readyF P left)) PyData.int left [] (by simp; omega) (fun s hs => by
    obtain ⟨RR, eRR⟩ : ∃ RR, readyF P left = RR := ⟨_, rfl⟩
    rw [eRR] at ei ⊢
    by_cases q : s ∈ RR
    · simp! [lcSt, ct_law_is_free_3, cc_law_is_free_3, cf_law_is_free_3, ei, q, not_true_eq_false]
    · simp! [lcSt, ct_law_is_free_3, cc_law_is_free_3, cf_law_is_free_3, ei, q, not_false_eq_true])
  rw [List.nil_append] at s1
  exact s1
theorem nil_ne {x : Int} {xs : List Int} : PyData.eqv (.list (zD (x :: xs))) (.list []) = false := eqv_nil
theorem free_go {P : List (List Int)} (h2 : ∀ k ∈ P, ∃ x y : Int, k = [x, y]) (lP : P.length ≤ 300) (a0 : Option R) : ∀ (k : Nat) (left : List Int) (a3 : Option R), left.length < k → left.length ≤ 100 →
    (freeGo P k left = true → ∃ a2 b3, sWh wt_law_is_free_1 wu_law_is_free_1 ⟨[a0, some (.d (.list (P.map tupD))), some (.d (.list (zD left))), a3, none, none, none], []⟩ = .ok .nx ⟨[a0, some (.d (.list (P.map tupD))), a2, b3, none, none, none], []⟩) ∧
    (freeGo P k left = false → ∃ a2 b3, sWh wt_law_is_free_1 wu_law_is_free_1 ⟨[a0, some (.d (.list (P.map tupD))), some (.d (.list (zD left))), a3, none, none, none], []⟩ = .ok (.rt (.d (.bool false))) ⟨[a0, some (.d (.list (P.map tupD))), a2, b3, none, none, none], []⟩)
  | 0, left, a3, h, _ => absurd h (by omega)
  | k + 1, left, a3, h, ll => by
    have r1 := readyF_lc h2 lP ll a0 a3 []
    have r2 := fun (a1 a2 : Option R) => restF_lc (P := P) ll a0 a1 a2 []
    rw [sWh_step]
    cases left with
    | nil =>
      refine ⟨fun _ => ⟨some (.d (.list [])), a3, ?_⟩, fun q => by unfold freeGo at q; rw [if_pos rfl] at q; cases q⟩
      obtain ⟨PP, ePP⟩ : ∃ PP, P.map tupD = PP := ⟨_, rfl⟩
      rw [ePP]
      have e0 : zD ([] : List Int) = [] := rfl
      rw [e0]
      simp! [wt_law_is_free_1, shaped_nil, eqv_nil0]
    | cons x xs =>
      have ne : PyData.eqv (.list (zD (x :: xs))) (.list []) = false := nil_ne
      have sh : SeqAt.shaped (.list (zD (x :: xs))) = true := shaped_zL
      obtain ⟨l, el⟩ : ∃ l, x :: xs = l := ⟨_, rfl⟩
      have ln : l ≠ [] := by rw [← el]; simp
      rw [el] at ne sh r1 r2 h ll ⊢
      have e1 : freeGo P (k + 1) l = if readyF P l = [] then false else freeGo P k (restF P l) := by
        show (if l = [] then true else _) = _
        rw [if_neg ln]
      rw [e1]
      cases hr : readyF P l with
      | nil =>
        rw [hr] at r1
        have r1 : lcGo ct_law_is_free_1 cc_law_is_free_1 cf_law_is_free_1 [a0, some (.d (.list (P.map tupD))), some (.d (.list (zD l))), a3, none, none, none] [4] (zD l) [] [] = .ok [] _ := r1
        rw [if_pos rfl]
        refine ⟨fun q => (nomatch q), fun _ => ⟨some (.d (.list (zD l))), some (.d (.list [])), ?_⟩⟩
        obtain ⟨PP, ePP⟩ : ∃ PP, P.map tupD = PP := ⟨_, rfl⟩
        rw [ePP] at r1 ⊢
        obtain ⟨LL, eLL⟩ : ∃ LL, zD l = LL := ⟨_, rfl⟩
        rw [eLL] at r1 ne sh ⊢
        simp! [wt_law_is_free_1, wu_law_is_free_1, shaped_nil, ne, sh, r1, eqv_nil0]
      | cons y ys =>
        rw [if_neg (by simp)]
        have rl := restF_len (P := P) (left := l) (by rw [hr]; simp)
        have ne2 : PyData.eqv (.list (zD (readyF P l))) (.list []) = false := by rw [hr]; exact nil_ne
        have sh2 : SeqAt.shaped (.list (zD (readyF P l))) = true := shaped_zL
        obtain ⟨i1, i2⟩ := free_go h2 lP a0 k (restF P l) (some (.d (.list (zD (readyF P l))))) (by omega) (by omega)
        obtain ⟨PP, ePP⟩ : ∃ PP, P.map tupD = PP := ⟨_, rfl⟩
        rw [ePP] at r1 i1 i2 ⊢
        have r2 := r2 (some (.d (.list PP))) (some (.d (.list (zD l))))
        obtain ⟨LL, eLL⟩ : ∃ LL, zD l = LL := ⟨_, rfl⟩
        obtain ⟨RR, eRR⟩ : ∃ RR, zD (readyF P l) = RR := ⟨_, rfl⟩
        obtain ⟨SS, eSS⟩ : ∃ SS, zD (restF P l) = SS := ⟨_, rfl⟩
        rw [eLL] at r1 r2 ne sh ⊢
        rw [eRR] at r1 r2 ne2 sh2 i1 i2
        rw [eSS] at r2 i1 i2
        have st : whSt wt_law_is_free_1 wu_law_is_free_1 (sWh wt_law_is_free_1 wu_law_is_free_1) ⟨[a0, some (.d (.list PP)), some (.d (.list LL)), a3, none, none, none], []⟩ = sWh wt_law_is_free_1 wu_law_is_free_1 ⟨[a0, some (.d (.list PP)), some (.d (.list SS)), some (.d (.list RR)), none, none, none], []⟩ := by
          conv => lhs; unfold wt_law_is_free_1 wu_law_is_free_1
          simp! [shaped_nil, ne, sh, ne2, sh2, r1, r2]
          rfl
        rw [st]
        exact ⟨i1, i2⟩
theorem is_free_ok {n : Nat} {ps : List (Nat × Nat)} (hn : n ≤ 16) (hp : ∀ p ∈ ps, VP n p) : fn_law_is_free [.d (.int (n : Int)), .d (.list ((prsM n ps).map tupD))] [] = .ok (.dat (.bool (decide ((ord2 n ps).2 = [])))) [] := by
  rw [← free_iff hp]
  have pb : PB n (prsM n ps) := prs_bd hp
  have gd := (seeM_good hn hp).2
  have lP : (prsM n ps).length ≤ 256 := by rw [prs_srt, (srtL_perm _).length_eq]; exact gd.len
  obtain ⟨i1, i2⟩ := free_go pb.two (by omega) (some (.d (.int (n : Int)))) (n + 1) (rngI n) none (by rw [(rw_rng n).len]; omega) (by rw [(rw_rng n).len]; omega)
  have ho : rgOk 0 (n : Int) = true := decide_eq_true (by omega)
  have e2 : ((n : Int) - 0).toNat = n := by omega
  have er : rng 0 n = zD (rngI n) := by rw [rng0]; unfold rngI zD; rw [List.map_map]; rfl
  have fo : ∀ (fa : FE) (g : G), fRg1 false fa g = (fa g).bind fun r g1 => match r with
    | .d (.int j) => rgK false 0 j g1
    | _ => .no := fun _ _ => rfl
  have rg : ∀ g, rgK false 0 (n : Int) g = .ok (.d (.list (zD (rngI n)))) g := fun g => by
    unfold rgK
    rw [ho, e2, er]
    rfl
  have ef : freeM n ps = freeGo (prsM n ps) (n + 1) (rngI n) := rfl
  cases hc : freeGo (prsM n ps) (n + 1) (rngI n) with
  | true =>
    rw [ef, hc]
    obtain ⟨a2, b3, e⟩ := i1 hc
    obtain ⟨PP, ePP⟩ : ∃ PP, (prsM n ps).map tupD = PP := ⟨_, rfl⟩
    rw [ePP] at e ⊢
    simp! [fn_law_is_free, b_law_is_free, fo, rg, e]
  | false =>
    rw [ef, hc]
    obtain ⟨a2, b3, e⟩ := i2 hc
    obtain ⟨PP, ePP⟩ : ∃ PP, (prsM n ps).map tupD = PP := ⟨_, rfl⟩
    rw [ePP] at e ⊢
    simp! [fn_law_is_free, b_law_is_free, fo, rg, e]
noncomputable def ct_law_is_cycle_1 : FG := (tN 2)
noncomputable def cc_law_is_cycle_1 : FT := fYes
noncomputable def cf_law_is_cycle_1 : FE := (fCall fn_law_is_int false (fCons (fVar 2) fNil))
noncomputable def ct_law_is_cycle_2 : FG := (tTupA 2 (tCons (tN 3) (tCons (tN 2) tNil)))
noncomputable def cc_law_is_cycle_2 : FT := fYes
noncomputable def cf_law_is_cycle_2 : FE := (fOp opIn (fTup (fCons (fVar 3) (fCons (fVar 2) fNil))) (fVar 0))
noncomputable def b_law_is_cycle : FS :=
  (sSq (sIte (fOrT (fNotT (fTst (fIsi "list" (fVar 1)))) (fOrT (fTst (fOp opLt (fCl clLen (fCons (fVar 1) fNil)) (fC (.int 2)))) (fNotT (fTst (fCl clAll (fCons (fLc (iSeq (fVar 1)) ct_law_is_cycle_1 cc_law_is_cycle_1 cf_law_is_cycle_1 [2]) fNil)))))) (sRt (fC (.bool false))) sNx)
  (sSq (sIte (fTst (fOp opNe (fLenSet (fVar 1)) (fCl clLen (fCons (fVar 1) fNil)))) (sRt (fC (.bool false))) sNx)
  (sRt (fCl clAll (fCons (fLc (iZ2 (fCons (fVar 1) (fCons (fOp opAdd (fSl (fVar 1) (fPart (fC (.int 1))) fNoP) (fSl (fVar 1) fNoP (fPart (fC (.int 1))))) fNil))) ct_law_is_cycle_2 cc_law_is_cycle_2 cf_law_is_cycle_2 [3, 2]) fNil)))))
noncomputable def fn_law_is_cycle : Fn := mkFn 4 b_law_is_cycle
def shcP (P : List (List Int)) (l : List Int) : Bool := decide (2 ≤ l.length) && decide l.Nodup && (l.zip (turnL l)).all fun p => decide ([p.1, p.2] ∈ P)
def cycB (P : List (List Int)) (d : PyData) : Bool := match d with
  | .list ds => if ds.all isI = true then shcP P (ds.map toI) else false
  | _ => false
theorem isI_all : ∀ {ds : List PyData}, ds.all isI = true → ds = zD (ds.map toI)
  | [], _ => rfl
  | d :: ds, h => by
    rw [List.all_cons, Bool.and_eq_true] at h
    have e : d = .int (toI d) := by
      unfold isI at h
      cases d with
      | int i => rfl
      | _ => exact absurd h.1 (by simp)
    show d :: ds = .int (toI d) :: zD (ds.map toI)
    rw [← e, ← isI_all h.2]
theorem toI_z (ns : List Int) : (zD ns).map toI = ns := by
  unfold zD
  rw [List.map_map]
  exact List.map_id'' (fun _ => rfl) ns
theorem isI_z (ns : List Int) : (zD ns).all isI = true := by
  unfold zD
  rw [List.all_map, List.all_eq_true]
  exact fun _ _ => rfl
theorem cycB_z (P : List (List Int)) (l : List Int) : cycB P (.list (zD l)) = shcP P l := by
  show (if (zD l).all isI = true then shcP P ((zD l).map toI) else false) = _
  rw [if_pos (isI_z l), toI_z]
theorem is_cycle_int {P : List (List Int)} (b2 : ∀ k ∈ P, ∃ a b : Int, k = [a, b]) {l : List Int} (hl : l.length ≤ 4000) (lcf : ∀ a2 a3 ce, lcGo ct_law_is_cycle_1 cc_law_is_cycle_1 cf_law_is_cycle_1 [some (.d (.list (P.map tupD))), some (.d (.list (zD l))), a2, a3] [2] (zD l) [] ce = .ok ((l.map fun _ => true).map .bool) ⟨[some (.d (.list (P.map tupD))), some (.d (.list (zD l))), a2, a3], ce⟩) :
    fn_law_is_cycle [.d (.list (P.map tupD)), .d (.list (zD l))] [] = .ok (.dat (.bool (shcP P l))) [] := by
  have ei := fun (g : G) (i j : Int) => inB_prs g P b2 i j
  unfold shcP
  have s1 := lcf none none []
  have ea : (l.map fun _ => true).all id = true := by rw [List.all_map, List.all_eq_true]; intro _ _; rfl
  by_cases h2 : l.length < 2
  · have h2' : ((l.length : Nat) : Int) < 2 := by omega
    have e0 : decide (2 ≤ l.length) = false := decide_eq_false (by omega)
    rw [e0]
    obtain ⟨PP, ePP⟩ : ∃ PP, P.map tupD = PP := ⟨_, rfl⟩
    rw [ePP]
    simp! only [fn_law_is_cycle, b_law_is_cycle, h2', Bool.false_and]
  · have h2' : ¬ ((l.length : Nat) : Int) < 2 := by omega
    have e0 : decide (2 ≤ l.length) = true := decide_eq_true (by omega)
    rw [e0]
    have k1 : cut (zD l) (some 1) none = zD (l.drop 1) := cut_from1 l
    have k2 : cut (zD l) none (some 1) = zD (l.take 1) := by
      have := cut_to (zD l) 1
      unfold zD at this ⊢
      rw [List.map_take]
      exact this
    have k3 : zD (l.drop 1) ++ zD (l.take 1) = zD (turnL l) := by unfold turnL zD; rw [List.map_append]
    have lT : (turnL l).length = l.length := by unfold turnL; rw [List.length_append, List.length_drop, List.length_take]; omega
    have lz : ((turnL l).length = l.length) = True := eq_true lT
    have lc : (l.drop 1).length + (l.take 1).length ≤ 100000 := by rw [List.length_drop, List.length_take]; omega
    have ez : zip2 (zD l) (zD (turnL l)) = (l.zip (turnL l)).map fun p => pD p := by
      unfold zip2 zD
      rw [List.zipWith_map]
      show _ = (List.zipWith Prod.mk l (turnL l)).map _
      rw [List.map_zipWith]
      rfl
    have s2 := lcGo_map (emb := fun (p : Int × Int) => pD p) (t := ct_law_is_cycle_2) (c := cc_law_is_cycle_2) (f := cf_law_is_cycle_2) (sl := [some (.d (.list (P.map tupD))), some (.d (.list (zD l))), none, none]) (ws := [3, 2]) (ce := []) (fun p => PyData.bool (decide ([p.1, p.2] ∈ P))) (xs := l.zip (turnL l)) (by rw [List.length_zip]; omega) (fun p _ => by
      obtain ⟨PP, ePP⟩ : ∃ PP, P.map tupD = PP := ⟨_, rfl⟩
      rw [ePP] at ei ⊢
      simp! [lcSt, ct_law_is_cycle_2, cc_law_is_cycle_2, cf_law_is_cycle_2, pD, ei])
    rw [show ((l.zip (turnL l)).map fun p => PyData.bool (decide ([p.1, p.2] ∈ P))) = ((l.zip (turnL l)).map fun p => decide ([p.1, p.2] ∈ P)).map .bool by rw [List.map_map]; rfl] at s2
    have eb : ((l.zip (turnL l)).map fun p => decide ([p.1, p.2] ∈ P)).all id = (l.zip (turnL l)).all fun p => decide ([p.1, p.2] ∈ P) := by rw [List.all_map]; rfl
    have ls := fun (g : G) => lenSetK_of (g := g) (r := .d (.list (zD l))) (t := false) (ns := l) rfl hl
    obtain ⟨PP, ePP⟩ : ∃ PP, P.map tupD = PP := ⟨_, rfl⟩
    rw [ePP] at s1 s2 ⊢
    by_cases hd : l.Nodup
    · have ed : ((dist l).length : Int) = (l.length : Int) := by have := (dist_eq_iff l).mpr hd; omega
      rw [decide_eq_true hd]
      simp! only [fn_law_is_cycle, b_law_is_cycle, h2', s1, ea, cat2, k1, k2, k3, lc, lz, ez, fLenSet_ap, ls, ed, s2, eb]
    · have ed : ¬ ((dist l).length : Int) = (l.length : Int) := fun e => hd ((dist_eq_iff l).mp (by omega))
      rw [decide_eq_false hd]
      simp! only [fn_law_is_cycle, b_law_is_cycle, h2', s1, ea, cat2, fLenSet_ap, ls, ed, Bool.and_false, Bool.false_and]
theorem is_cycle_gen {P : List (List Int)} (b2 : ∀ k ∈ P, ∃ a b : Int, k = [a, b]) (d : PyData) (hd : d.hasDict = false) (hl : ∀ ds, d = .list ds → ds.length ≤ 4000) :
    fn_law_is_cycle [.d (.list (P.map tupD)), .d d] [] = .ok (.dat (.bool (cycB P d))) [] := by
  cases d with
  | dict kvs => simp only [PyData.hasDict] at hd; cases hd
  | list ds =>
    have hl := hl ds rfl
    have hn := noDict_at sqL hd
    have sg := fun (a2 a3 : Option R) (ce : List Ct) => lcGo_map (emb := fun (z : PyData) => z) (t := ct_law_is_cycle_1) (c := cc_law_is_cycle_1) (f := cf_law_is_cycle_1) (sl := [some (.d (.list (P.map tupD))), some (.d (.list ds)), a2, a3]) (ws := [2]) (ce := ce) (fun z => .bool (isI z)) (xs := ds) (by omega) (fun z hz => by
      have r := is_int_gen z (hn z hz)
      obtain ⟨PP, ePP⟩ : ∃ PP, P.map tupD = PP := ⟨_, rfl⟩
      rw [ePP]
      simp! [lcSt, ct_law_is_cycle_1, cc_law_is_cycle_1, cf_law_is_cycle_1, call_of r])
    have em : (ds.map fun q => PyData.bool (isI q)) = (ds.map isI).map .bool := by rw [List.map_map]; rfl
    simp only [List.map_id', em] at sg
    have ea : (ds.map isI).all id = ds.all isI := by rw [List.all_map]; rfl
    cases h : ds.all isI with
    | false =>
      rw [h] at ea
      have e0 : cycB P (.list ds) = false := by
        show (if ds.all isI = true then _ else false) = false
        rw [h]; rfl
      rw [e0]
      have s1 := sg none none []
      obtain ⟨PP, ePP⟩ : ∃ PP, P.map tupD = PP := ⟨_, rfl⟩
      rw [ePP] at s1 ⊢
      by_cases h2 : ((ds.length : Nat) : Int) < 2
      · simp! only [fn_law_is_cycle, b_law_is_cycle, h2]
      · simp! only [fn_law_is_cycle, b_law_is_cycle, h2, s1, ea]
    | true =>
      have ez := isI_all h
      obtain ⟨l, el⟩ : ∃ l, ds.map toI = l := ⟨_, rfl⟩
      rw [el] at ez
      subst ez
      rw [cycB_z]
      have lz : (zD l).length = l.length := List.length_map ..
      refine is_cycle_int b2 (by omega) fun a2 a3 ce => ?_
      rw [sg a2 a3 ce]
      unfold zD
      simp only [List.map_map]
      rfl
  | _ =>
    obtain ⟨PP, ePP⟩ : ∃ PP, P.map tupD = PP := ⟨_, rfl⟩
    rw [ePP]
    simp! only [fn_law_is_cycle, b_law_is_cycle, cycB]
end DL
set_option Elab.async false
set_option linter.all false
set_option maxRecDepth 100000
set_option maxHeartbeats 1000000
set_option autoImplicit false
namespace DL
open PySem PySem.Spec PyProof.Rows L2
noncomputable def b_law_bent (rec : Fn) : FS :=
  (sSq (sSet (fCall (fn_law_take 4) false (fCons (fVar 0) (fCons (fC (.int 6)) fNil))) (tN 2))
  (sSq (sIte (fAndT (fTst (fIsi2 "tuple" "list" (fVar 1))) (fAndT (fTst (fOp opGt (fCl clLen (fCons (fVar 1) fNil)) (fC (.int 0)))) (fTst (fOp opGt (fVar 2) (fC (.int 1)))))) (sSq (sP2 3 4 (fCons (fCall (fn_law_take 4) false (fCons (fVar 0) (fCons (fCl clLen (fCons (fVar 1) fNil)) fNil))) (fCons (fListO (fCons (fVar 1) fNil)) fNil)))
    (sSq (sIte (fTst (fOp opEq (fVar 2) (fC (.int 2)))) (sEx (fMt mtPop (fVar 4) (fCons (fVar 3) fNil))) (sIte (fTst (fOp opEq (fVar 2) (fC (.int 3)))) (sEx (fMt mtInsert (fVar 4) (fCons (fVar 3) (fCons (fOp opIx (fVar 4) (fVar 3)) fNil)))) (sSet (fCall rec false (fCons (fVar 0) (fCons (fOp opIx (fVar 4) (fVar 3)) fNil))) (tSub (fVar 4) (fVar 3)))))
    (sRt (fIf (fTst (fIsi "tuple" (fVar 1))) (fCl clTuple (fCons (fVar 4) fNil)) (fVar 4))))) sNx)
  (sSq (sIte (fAndT (fTst (fOp opEq (fVar 2) (fC (.int 0)))) (fTst (fIsi2 "tuple" "list" (fVar 1)))) (sRt (fIf (fTst (fIsi "tuple" (fVar 1))) (fListO (fCons (fVar 1) fNil)) (fCl clTuple (fCons (fVar 1) fNil)))) sNx)
  (sSq (sSet (fLst (fCons (fC .none) (fCons (fC (.bool true)) (fCons (fC (.bool false)) (fCons (fNeg (fC (.int 1))) (fCons (fC (.int 0)) (fCons (fC (.int 1)) (fCons (fC (.str "")) (fCons (fC (.str "row")) (fCons (fTup fNil) (fCons (fLst fNil) (fCons (fTup (fCons (fC (.int 0)) fNil)) (fCons (fLst (fCons (fC (.int 0)) fNil)) (fCons (fTup (fCons (fC (.int 0)) (fCons (fC (.int 2)) fNil))) (fCons (fOp opPow (fC (.int 10)) (fC (.int 30))) fNil))))))))))))))) (tN 5))
  (sSq (sIte (fAndT (fTst (fIsi "int" (fVar 1))) (fNotT (fTst (fIsi "bool" (fVar 1))))) (sSet (fOp opAdd (fVar 5) (fLst (fCons (fOp opAdd (fVar 1) (fC (.int 1))) (fCons (fOp opSub (fVar 1) (fC (.int 1))) (fCons (fOp opAdd (fVar 1) (fC (.int 1))) (fCons (fCl clStr (fCons (fVar 1) fNil)) fNil)))))) (tN 5)) sNx)
  (sRt (fCall fn_law_of true (fCons (fVar 0) (fCons (fVar 5) fNil)))))))))
noncomputable def fn_law_bent : Nat → Fn
  | 0 => fun _ _ => .no
  | n + 1 => mkFn 6 (b_law_bent (fn_law_bent n))
def oddD : List PyData := [.none, .bool true, .bool false, .int (-1), .int 0, .int 1, .str "", .str "row", .tuple [], .list [], .tuple [.int 0], .list [.int 0], .tuple [.int 0, .int 2], .int 1000000000000000000000000000000]
theorem oddD_sh0 : ∀ d ∈ oddD, shG (10 ^ 30 + 1) 2 420 1 d = true := by
  have : oddD.all (shG (10 ^ 30 + 1) 2 420 1) = true := by decide +kernel
  exact List.all_eq_true.mp this
theorem oddD_sh {b L : Nat} (h : 10 ^ 30 < b) (hL : 2 ≤ L) : ∀ d ∈ oddD, shG (b + 1) (L + 1) 420 1 d = true := fun d hd => shG_mono (by omega) (by omega) 1 1 d (by omega) (oddD_sh0 d hd)
/-- what a bent value is, as a result -/
def ResD (q : Res) (d : PyData) : Prop := q = .dat d ∨ ∃ ds, q = .newC (.lst ds) ∧ d = .list ds
theorem callB_res {f : Fn} {rs : List R} {q : Res} {d : PyData} {j : Nat} {ds ds' : List PyData} (h : f (.o 0 :: rs) [.lst ds] = .ok q [.lst ds']) (hq : ResD q d) {g : G} (hj : g.ce[j]? = some (.lst ds)) (hb : boxes rs = [] := by rfl) (hr : rs.map (renR [j]) = rs := by rfl) (hL : (R.o j :: rs).all noL = true := by rfl) :
    callF f false (.o j :: rs) g = .ok (.d d) ⟨g.sl, g.ce.set j (.lst ds')⟩ := by
  rcases hq with rfl | ⟨es, rfl, rfl⟩
  · exact callB_of h false hj hb hr hL
  · exact callB_new h hj hb hr hL
theorem ix_of {k m : Nat} (h : k < m) : ixN m (k : Int) = some k := by
  unfold ixN
  rw [if_pos (by omega), if_pos (by omega), Int.toNat_natCast]
theorem bent_odd {b L m N : Nat} (hb30 : 10 ^ 30 < b) (hb40 : b < 10 ^ 40) (hL : 2 ≤ L) {bx : List PyData} {part : PyData} {w : Int} {bx1 : List PyData} (e1 : fn_law_take 4 [.o 0, .d (.int 6)] [.lst bx] = .ok (.dat (.int w)) [.lst bx1]) (hb1 : BoxOk N bx1) (hN : N < 850000000) (hw : 0 ≤ w ∧ w < 6) (hs : shG b L 420 m part = true) (hcase : (∀ ds, ¬ Sq part ds) ∨ w = 1 ∨ (Sq part [] ∧ w ≠ 0)) (k : Nat) :
    ∃ d bx', fn_law_bent (k + 1) [.o 0, .d part] [.lst bx] = .ok (.dat d) [.lst bx'] ∧ shG (b + 1) (L + 1) 420 1 d = true ∧ BoxOk (N + 8) bx' := by
  have c1 := fun (sl : List (Option R)) => callB_of e1 (j := 0) (g := ⟨sl, [.lst bx]⟩) false rfl
  have odd : ∀ sl : List (Option R), ∃ d bx', (∀ (sl : List (Option R)), callF fn_law_of true [.o 0, .d (.list oddD)] ⟨sl, [.lst bx1]⟩ = .ok (.d d) ⟨sl, [.lst bx']⟩) ∧ shG (b + 1) (L + 1) 420 1 d = true ∧ BoxOk (N + 8) bx' := fun sl => by
    obtain ⟨d, bx', hd, e, hb⟩ := of_ok (x := .list oddD) (ds := oddD) hb1 (by omega) sqL (by decide) (by decide)
    exact ⟨d, bx', fun sl => callB_of e (j := 0) (g := ⟨sl, [.lst bx1]⟩) true rfl, oddD_sh hb30 hL d hd, hb⟩
  have n10 : Int.natAbs 10 < 18446744073709551616 := by decide
  obtain ⟨d, bx', ho, hd, hb⟩ := odd []
  unfold oddD at ho
  cases part with
  | int i =>
    have hi := shG_intv hs
    have hi40 : i.natAbs < 10 ^ 40 := Nat.lt_trans hi hb40
    have li : i.natAbs.log2 < 1920 := int_log hi40
    obtain ⟨d, bx', hd, e, hb⟩ := of_ok (x := .list (oddD ++ [.int (i + 1), .int (i - 1), .int (i + 1), .str (toString i)])) (ds := oddD ++ [.int (i + 1), .int (i - 1), .int (i + 1), .str (toString i)]) hb1 (by omega) sqL (by simp) (by simp [oddD])
    have ho : ∀ (sl : List (Option R)), callF fn_law_of true [.o 0, .d (.list (oddD ++ [.int (i + 1), .int (i - 1), .int (i + 1), .str (toString i)]))] ⟨sl, [.lst bx1]⟩ = .ok (.d d) ⟨sl, [.lst bx']⟩ := fun sl => callB_of e (j := 0) (g := ⟨sl, [.lst bx1]⟩) true rfl
    refine ⟨d, bx', ?_, ?_, hb⟩
    · unfold oddD at ho
      simp only [List.cons_append, List.nil_append] at ho
      by_cases w0 : w = 0
      · simp! only [fn_law_bent, b_law_bent, c1, n10, w0, clStr_ap _ _ li, cat2, ho, Bool.or_false]
      · simp! only [fn_law_bent, b_law_bent, c1, n10, w0, clStr_ap _ _ li, cat2, ho, Bool.or_false]
    · rcases List.mem_append.mp hd with hd | hd
      · exact oddD_sh hb30 hL d hd
      · have s1 := reprI_G (i := i) hi40
        have hs1 : shG (b + 1) (L + 1) 420 1 (.str (toString i)) = true := by
          show (decide ((reprText (toString i)).length ≤ 420) && PyData.strOk (toString i)) = true
          rw [decide_eq_true s1.1, s1.2]
          rfl
        have a1 : shG (b + 1) (L + 1) 420 1 (.int (i + 1)) = true := shG_int (by omega)
        have a2 : shG (b + 1) (L + 1) 420 1 (.int (i - 1)) = true := shG_int (by omega)
        simp only [List.mem_cons, List.not_mem_nil, or_false] at hd
        rcases hd with rfl | rfl | rfl | rfl
        · exact a1
        · exact a2
        · exact a1
        · exact hs1
  | dict kvs => cases m <;> cases hs
  | none =>
    refine ⟨d, bx', ?_, hd, hb⟩
    by_cases w0 : w = 0 <;> simp! only [fn_law_bent, b_law_bent, c1, n10, w0, ho, Bool.or_false]
  | bool b =>
    refine ⟨d, bx', ?_, hd, hb⟩
    by_cases w0 : w = 0 <;> simp! only [fn_law_bent, b_law_bent, c1, n10, w0, ho, Bool.or_false]
  | str z =>
    refine ⟨d, bx', ?_, hd, hb⟩
    by_cases w0 : w = 0 <;> simp! only [fn_law_bent, b_law_bent, c1, n10, w0, ho, Bool.or_false]
  | list ds =>
    refine ⟨d, bx', ?_, hd, hb⟩
    rcases hcase with hc | rfl | ⟨hc, w0⟩
    · exact absurd sqL (hc ds)
    · by_cases hp : 0 < (ds.length : Int) <;> simp! only [fn_law_bent, b_law_bent, c1, n10, ho, hp, Bool.or_false, Bool.or_true]
    · rcases hc with hc | hc <;> cases hc
      by_cases w1 : 1 < w <;> simp! only [fn_law_bent, b_law_bent, c1, n10, ho, w0, w1, Bool.or_false, Bool.or_true, Int.ofNat_zero, Int.natCast_zero]
  | tuple ds =>
    refine ⟨d, bx', ?_, hd, hb⟩
    rcases hcase with hc | rfl | ⟨hc, w0⟩
    · exact absurd sqT (hc ds)
    · by_cases hp : 0 < (ds.length : Int) <;> simp! only [fn_law_bent, b_law_bent, c1, n10, ho, hp, Bool.or_false, Bool.or_true, Bool.true_or]
    · rcases hc with hc | hc <;> cases hc
      by_cases w1 : 1 < w <;> simp! only [fn_law_bent, b_law_bent, c1, n10, ho, w0, w1, Bool.or_false, Bool.or_true, Bool.true_or, Int.ofNat_zero, Int.natCast_zero]
theorem erase_le {α : Type} (l : List α) (k : Nat) : (l.eraseIdx k).length ≤ l.length := by rw [List.length_eraseIdx]; split <;> omega
theorem bent_gen {b L : Nat} (hb30 : 10 ^ 30 < b) (hb40 : b < 10 ^ 40) (hL : 2 ≤ L) : ∀ (n k N : Nat) (bx : List PyData) (part : PyData), n ≤ k → shG b L 420 n part = true → BoxOk N bx → N + 24 * (n + 1) < 800000000 → L < 50000 →
    ∃ q d bx', fn_law_bent (k + 1) [.o 0, .d part] [.lst bx] = .ok q [.lst bx'] ∧ ResD q d ∧ shG (b + 1) (L + 1) 420 (n + 1) d = true ∧ BoxOk (N + 24 * (n + 1)) bx' := by
  intro n
  induction n with
  | zero =>
    intro k N bx part hk hs hb hN hLL
    obtain ⟨w, bx1, e1, w0, w1, hb1⟩ := take4 (below := 6) hb (by omega) (by omega) (by omega)
    obtain ⟨d, bx', e, hd, hb'⟩ := bent_odd hb30 hb40 hL e1 hb1 (by omega) ⟨w0, w1⟩ hs (.inl fun ds hx => by rcases hx with rfl | rfl <;> cases hs) k
    exact ⟨.dat d, d, bx', e, .inl rfl, hd, hb'.mono (by omega)⟩
  | succ n ih =>
    intro k N bx part hk hs hb hN hLL
    obtain ⟨k, rfl⟩ : ∃ k', k = k' + 1 := ⟨k - 1, by omega⟩
    obtain ⟨w, bx1, e1, w0, w1, hb1⟩ := take4 (below := 6) hb (by omega) (by omega) (by omega)
    by_cases hq : ∃ ds, Sq part ds
    · obtain ⟨ds, hx⟩ := hq
      obtain ⟨hl, hi⟩ := shG_in hx hs
      have hD : ∀ d ∈ ds, shG (b + 1) (L + 1) 420 (n + 1) d = true := fun d hd => shG_mono (by omega) (by omega) n (n + 1) d (by omega) (hi d hd)
      by_cases hw1 : w = 1
      · obtain ⟨d, bx', e, hd, hb'⟩ := bent_odd hb30 hb40 hL e1 hb1 (by omega) ⟨w0, w1⟩ hs (.inr (.inl hw1)) (k + 1)
        exact ⟨.dat d, d, bx', e, .inl rfl, shG_mono (Nat.le_refl _) (Nat.le_refl _) _ _ _ (by omega) hd, hb'.mono (by omega)⟩
      · by_cases hw0 : w = 0
        · subst hw0
          have c1 := fun (sl : List (Option R)) => callB_of e1 (j := 0) (g := ⟨sl, [.lst bx]⟩) false rfl
          rcases hx with rfl | rfl
          · refine ⟨.dat (.tuple ds), .tuple ds, bx1, ?_, .inl rfl, shG_q sqT (by omega) hD, hb1.mono (by omega)⟩
            by_cases hp : 0 < (ds.length : Int) <;> simp! only [fn_law_bent, b_law_bent, c1, hp, Bool.or_false, Bool.or_true, Bool.true_or]
          · refine ⟨.newC (.lst ds), .list ds, bx1, ?_, .inr ⟨ds, rfl, rfl⟩, shG_q sqL (by omega) hD, hb1.mono (by omega)⟩
            by_cases hp : 0 < (ds.length : Int) <;> simp! only [fn_law_bent, b_law_bent, c1, hp, Bool.or_false, Bool.or_true, Bool.true_or]
        · by_cases he : ds = []
          · subst he
            obtain ⟨d, bx', e, hd, hb'⟩ := bent_odd hb30 hb40 hL e1 hb1 (by omega) ⟨w0, w1⟩ hs (.inr (.inr ⟨hx, hw0⟩)) (k + 1)
            exact ⟨.dat d, d, bx', e, .inl rfl, shG_mono (Nat.le_refl _) (Nat.le_refl _) _ _ _ (by omega) hd, hb'.mono (by omega)⟩
          · have lp : 0 < ds.length := List.length_pos_iff.mpr he
            obtain ⟨a, bx2, e2, a0, a1, hb2⟩ := take4 (below := (ds.length : Nat)) hb1 (by omega) (by omega) (by omega)
            obtain ⟨a, rfl⟩ : ∃ a' : Nat, a = a' := ⟨a.toNat, by omega⟩
            have ha : a < ds.length := by omega
            have c1 := fun (sl : List (Option R)) => callB_of e1 (j := 0) (g := ⟨sl, [.lst bx]⟩) false rfl
            have c2 := fun (sl : List (Option R)) => callB_of e2 (j := 0) (g := ⟨sl, [.lst bx1]⟩) false rfl
            obtain ⟨v, hv⟩ : ∃ v, ds[a]? = some v := ⟨_, List.getElem?_eq_getElem ha⟩
            have hvm : v ∈ ds := List.mem_of_getElem? hv
            have hat : atI ds (a : Int) = some v := by rw [atI_cast, hv]
            have hp : 0 < (ds.length : Int) := by omega
            have hw : 1 < w := by omega
            have fin : ∀ (es : List PyData) (bx' : List PyData), es.length ≤ L + 1 → (∀ d ∈ es, shG (b + 1) (L + 1) 420 (n + 1) d = true) → BoxOk (N + 24 * (n + 2)) bx' →
                ((∀ x, fn_law_bent (k + 2) [.o 0, .d (.list ds)] [.lst bx] = x ↔ (.ok (.newC (.lst es)) [.lst bx'] : OutF) = x) ∨ part ≠ .list ds) → ((∀ x, fn_law_bent (k + 2) [.o 0, .d (.tuple ds)] [.lst bx] = x ↔ (.ok (.dat (.tuple es)) [.lst bx'] : OutF) = x) ∨ part ≠ .tuple ds) →
                ∃ q d bx', fn_law_bent (k + 1 + 1) [.o 0, .d part] [.lst bx] = .ok q [.lst bx'] ∧ ResD q d ∧ shG (b + 1) (L + 1) 420 (n + 1 + 1) d = true ∧ BoxOk (N + 24 * (n + 1 + 1)) bx' := by
              intro es bx' h1 h2 h3 h4 h5
              rcases hx with rfl | rfl
              · rcases h4 with h4 | h4
                · exact ⟨_, .list es, bx', (h4 _).mpr rfl, .inr ⟨es, rfl, rfl⟩, shG_q sqL h1 h2, h3⟩
                · exact absurd rfl h4
              · rcases h5 with h5 | h5
                · exact ⟨_, .tuple es, bx', (h5 _).mpr rfl, .inl rfl, shG_q sqT h1 h2, h3⟩
                · exact absurd rfl h5
            have hD1 := hD
            have l100 : ds.length < 100000 := by omega
            by_cases w2 : w = 2
            · subst w2
              have hpop : popL (a : Int) ds = some (.d v, ds.eraseIdx a) := by
                unfold popL
                rw [if_pos ⟨by omega, by omega⟩, seqIx (by omega) (by omega), Int.toNat_natCast]
                simp only [hv]
              have le := erase_le ds a
              refine fin (ds.eraseIdx a) bx2 (by omega) (fun d hd => hD1 d (List.mem_of_mem_eraseIdx hd)) (hb2.mono (by omega)) (.inl fun x => ?_) (.inl fun x => ?_)
              · simp! only [fn_law_bent, b_law_bent, c1, c2, hp, hpop, Bool.or_false, Bool.or_true, Bool.true_or]
              · simp! only [fn_law_bent, b_law_bent, c1, c2, hp, hpop, Bool.or_false, Bool.or_true, Bool.true_or]
            · by_cases w3 : w = 3
              · subst w3
                refine fin (ds.take a ++ [v] ++ ds.drop a) bx2 (by simp; omega) (fun d hd => ?_) (hb2.mono (by omega)) (.inl fun x => ?_) (.inl fun x => ?_)
                · simp only [List.mem_append, List.mem_singleton] at hd
                  rcases hd with (hd | rfl) | hd
                  · exact hD1 d (List.mem_of_mem_take hd)
                  · exact hD1 _ hvm
                  · exact hD1 d (List.mem_of_mem_drop hd)
                · simp! only [fn_law_bent, b_law_bent, c1, c2, hp, hat, Bool.or_false, Bool.or_true, Bool.true_or, show ds.length < 100000 by omega, show (0 : Int) ≤ (a : Int) by omega, show (a : Int) < 9223372036854775808 by omega, Int.toNat_natCast]
                · simp! only [fn_law_bent, b_law_bent, c1, c2, hp, hat, Bool.or_false, Bool.or_true, Bool.true_or, show ds.length < 100000 by omega, show (0 : Int) ≤ (a : Int) by omega, show (a : Int) < 9223372036854775808 by omega, Int.toNat_natCast]
              · obtain ⟨q, d, bx3, e3, hr, hd, hb3⟩ := ih k (N + 8 + 8) bx2 v (by omega) (hi v hvm) hb2 (by omega) hLL
                have ef : fn_law_bent (k + 2) = mkFn 6 (b_law_bent (fn_law_bent (k + 1))) := rfl
                obtain ⟨F, eF⟩ : ∃ F, fn_law_bent (k + 1) = F := ⟨_, rfl⟩
                rw [eF] at e3 ef
                have c3 := fun (sl : List (Option R)) => callB_res e3 hr (j := 0) (g := ⟨sl, [.lst bx2, .lst ds]⟩) rfl
                refine fin (ds.set a d) bx3 (by rw [List.length_set]; omega) (fun z hz => ?_) (hb3.mono (by omega)) (.inl fun x => ?_) (.inl fun x => ?_)
                · rcases List.mem_or_eq_of_mem_set hz with hz | rfl
                  · exact hD1 z hz
                  · exact hd
                · rw [ef]
                  simp! only [b_law_bent, c1, c2, c3, hp, hw, w2, w3, hat, ix_of ha, Bool.or_false, Bool.or_true, Bool.true_or]
                · rw [ef]
                  simp! only [b_law_bent, c1, c2, c3, hp, hw, w2, w3, hat, ix_of ha, Bool.or_false, Bool.or_true, Bool.true_or]
    · obtain ⟨d, bx', e, hd, hb'⟩ := bent_odd hb30 hb40 hL e1 hb1 (by omega) ⟨w0, w1⟩ hs (.inl fun ds hx => hq ⟨ds, hx⟩) (k + 1)
      exact ⟨.dat d, d, bx', e, .inl rfl, shG_mono (Nat.le_refl _) (Nat.le_refl _) _ _ _ (by omega) hd, hb'.mono (by omega)⟩
end DL
set_option Elab.async false
set_option linter.all false
set_option maxRecDepth 100000
set_option maxHeartbeats 1000000
set_option autoImplicit false
namespace DL
open PySem PySem.Spec PyProof.Rows L2
noncomputable def ct_law_matters_1 : FG := (tN 5)
noncomputable def cc_law_matters_1 : FT := fYes
noncomputable def cf_law_matters_1 : FE := (fLst (fCons (fVar 4) (fCons (fVar 5) fNil)))
noncomputable def ft_law_matters_1 : FG := (tN 4)
noncomputable def fu_law_matters_1 : FS := (sSet (fOp opAdd (fVar 3) (fLc (iRg1 (fCons (fVar 1) fNil)) ct_law_matters_1 cc_law_matters_1 cf_law_matters_1 [5])) (tN 3))
noncomputable def ct_law_matters_2 : FG := (tN 6)
noncomputable def cc_law_matters_2 : FT := fYes
noncomputable def cf_law_matters_2 : FE := (fSl (fCall fn_law_strewn false (fCons (fVar 0) (fCons (fRg1 false (fVar 1)) fNil))) fNoP (fPart (fC (.int 3))))
noncomputable def ct_law_matters_3 : FG := (tN 6)
noncomputable def cc_law_matters_3 : FT := fYes
noncomputable def cf_law_matters_3 : FE := (fCall (fn_law_bent 4) false (fCons (fVar 0) (fCons (fCall fn_law_of false (fCons (fVar 0) (fCons (fVar 3) fNil))) fNil)))
noncomputable def b_law_matters : FS :=
  (sSq (sSet (fLst (fCons (fVar 2) (fCons (fC .none) (fCons (fLst fNil) (fCons (fTup fNil) (fCons (fC (.int 0)) (fCons (fC (.str "cycle")) (fCons (fLst (fCons (fC (.int 0)) fNil)) (fCons (fLst (fCons (fC (.int 0)) (fCons (fC (.int 0)) fNil))) (fCons (fIf (fTst (fOp opNotN (fVar 2) (fC .none))) (fCl clTuple (fCons (fVar 2) fNil)) (fTup (fCons (fC (.int 0)) (fCons (fC (.int 1)) fNil)))) fNil)))))))))) (tN 3))
  (sSq (sIte (fTst (fOp opNotN (fVar 2) (fC .none))) (sSet (fOp opAdd (fVar 3) (fLst (fCons (fOp opAdd (fSl (fVar 2) (fPart (fC (.int 1))) fNoP) (fSl (fVar 2) fNoP (fPart (fC (.int 1))))) (fCons (fRev (fVar 2)) (fCons (fOp opAdd (fVar 2) (fVar 2)) (fCons (fSl (fVar 2) (fPart (fC (.int 1))) fNoP) (fCons (fOp opAdd (fLst (fCons (fC (.bool true)) fNil)) (fSl (fVar 2) (fPart (fC (.int 1))) fNoP)) fNil))))))) (tN 3)) sNx)
  (sSq (sFr (iRg1 (fCons (fVar 1) fNil)) ft_law_matters_1 fu_law_matters_1)
  (sSq (sSet (fOp opAdd (fVar 3) (fLc (iRg1 (fCons (fC (.int 12)) fNil)) ct_law_matters_2 cc_law_matters_2 cf_law_matters_2 [6])) (tN 3))
  (sRt (fOp opAdd (fVar 3) (fLc (iRg1 (fCons (fC (.int 10)) fNil)) ct_law_matters_3 cc_law_matters_3 cf_law_matters_3 [6])))))))
noncomputable def fn_law_matters : Fn := mkFn 7 b_law_matters
theorem shows_gen {n : Nat} {z : PyData} {ps : List (Nat × Nat)} (t : Bool) (hz : Sq z (ps.map fun p => emP t (castP p))) (hn : n ≤ 16) (hp : ∀ p ∈ ps, VP n p) (d : PyData) (hd : d.hasDict = false) (hl : ∀ ds, d = .list ds → ds.length ≤ 4000) :
    fn_shows_cycle [.d (.int (n : Int)), .d z, .d d] [] = .ok (.dat (.bool (cycB (prsM n ps) d))) [] := by
  cases d with
  | dict kvs => simp only [PyData.hasDict] at hd; cases hd
  | list ds =>
    have hl := hl ds rfl
    have hn' := noDict_at sqL hd
    have sg := lcGo_map (emb := fun (z : PyData) => z) (t := ct_shows_cycle_1) (c := cc_shows_cycle_1) (f := cf_shows_cycle_1) (sl := [some (.d (.int (n : Int))), some (.d z), some (.d (.list ds)), none, none, none, none]) (ws := [5]) (ce := []) (fun z => .bool (isI z)) (xs := ds) (by omega) (fun y hy => by
      have r := is_number_gen y (hn' y hy)
      simp! [lcSt, ct_shows_cycle_1, cc_shows_cycle_1, cf_shows_cycle_1, call_of r])
    have em : (ds.map fun q => PyData.bool (isI q)) = (ds.map isI).map .bool := by rw [List.map_map]; rfl
    simp only [List.map_id', em] at sg
    have ea : (ds.map isI).all id = ds.all isI := by rw [List.all_map]; rfl
    cases h : ds.all isI with
    | false =>
      rw [h] at ea
      have e0 : cycB (prsM n ps) (.list ds) = false := by
        show (if ds.all isI = true then _ else false) = false
        rw [h]; rfl
      rw [e0]
      by_cases h2 : ((ds.length : Nat) : Int) < 2
      · simp! only [fn_shows_cycle, b_shows_cycle, h2]
      · simp! only [fn_shows_cycle, b_shows_cycle, h2, sg, ea]
    | true =>
      have ez := isI_all h
      obtain ⟨l, el⟩ : ∃ l, ds.map toI = l := ⟨_, rfl⟩
      rw [el] at ez
      subst ez
      rw [cycB_z]
      exact shows_ok t hz hn hp (by rw [List.length_map] at hl; exact hl)
  | _ => simp! only [fn_shows_cycle, b_shows_cycle, cycB]
abbrev shK (d : PyData) : Prop := shG (10 ^ 31) 30 420 2 d = true
theorem shK_z {l : List Int} {x : PyData} (hx : Sq x (zD l)) (hl : l.length ≤ 30) (hb : ∀ z ∈ l, z.natAbs < 10 ^ 31) : shK x := shG_mono (Nat.le_refl _) (Nat.le_refl _) 1 2 _ (by omega) (shG_z hx hl hb)
theorem fRg1_apK (t : Bool) (fa : FE) (g : G) : fRg1 t fa g = (fa g).bind fun r g1 => match r with
  | .d (.int j) => rgK t 0 j g1
  | _ => .no := id rfl
theorem rg0K (N : Nat) (hN : N < 1000) (g : G) : rgK false 0 (N : Int) g = .ok (.d (.list (rng 0 N))) g := by
  have e2 : ((N : Int) - 0).toNat = N := by omega
  have hr : rgOk 0 (N : Int) = true := decide_eq_true (by omega)
  unfold rgK
  rw [hr, e2]
  rfl
theorem pair_step (a0 a1 a2 a3 : Option R) (x y : Int) (a5 a6 : Option R) (ce : List Ct) : lcSt ct_law_matters_1 cc_law_matters_1 cf_law_matters_1 [a0, a1, a2, a3, some (.d (.int x)), a5, a6] [5] (.int y) ce = some (some (.list [.int x, .int y]), ce) := by
  simp! [lcSt, ct_law_matters_1, cc_law_matters_1, cf_law_matters_1]
theorem pair_set (a0 a2 : Option R) (N : Int) (M W : List PyData) (b4 a5 a6 : Option R) (x : Int) (ce : List Ct) (rk : rOk N = true) (lc : M.length + W.length ≤ 100000) (s : lcGo ct_law_matters_1 cc_law_matters_1 cf_law_matters_1 [a0, some (.d (.int N)), a2, some (.d (.list M)), some (.d (.int x)), a5, a6] [5] (rng 0 N.toNat) [] ce = .ok W ⟨[a0, some (.d (.int N)), a2, some (.d (.list M)), some (.d (.int x)), a5, a6], ce⟩) :
    forSt ft_law_matters_1 fu_law_matters_1 (.int x) ⟨[a0, some (.d (.int N)), a2, some (.d (.list M)), b4, a5, a6], ce⟩ = .ok .nx ⟨[a0, some (.d (.int N)), a2, some (.d (.list (M ++ W))), some (.d (.int x)), a5, a6], ce⟩ := by
  simp! [ft_law_matters_1, fu_law_matters_1, rk, s, cat2, lc]
/-- the pairs -/
theorem pairs_ok {N : Nat} (hN : N ≤ 16) (a2 a5 a6 : Option R) (ce : List Ct) {L : List PyData} (hL : L.length ≤ 14) : ∃ (acc : List PyData) (b4 : Option R), forGo ft_law_matters_1 fu_law_matters_1 (rng 0 N) ⟨[some (.o 0), some (.d (.int (N : Int))), a2, some (.d (.list L)), none, a5, a6], ce⟩ = .ok .nx ⟨[some (.o 0), some (.d (.int (N : Int))), a2, some (.d (.list (L ++ acc))), b4, a5, a6], ce⟩ ∧ acc.length = N * N ∧ ∀ d ∈ acc, shK d := by
  have rk : rOk (N : Int) = true := rOk_of (by omega) (by omega)
  have er : rng 0 N = (List.range N).map fun (i : Nat) => PyData.int (i : Int) := rng0 N
  obtain ⟨g', e, acc, b4, rfl, la, ha⟩ := forGo_inv (emb := fun (i : Nat) => PyData.int (i : Int)) (t := ft_law_matters_1) (u := fu_law_matters_1) (xs := List.range N) (g := ⟨[some (.o 0), some (.d (.int (N : Int))), a2, some (.d (.list L)), none, a5, a6], ce⟩)
    (fun i g => ∃ (acc : List PyData) (b4 : Option R), g = ⟨[some (.o 0), some (.d (.int (N : Int))), a2, some (.d (.list (L ++ acc))), b4, a5, a6], ce⟩ ∧ acc.length = i * N ∧ ∀ d ∈ acc, shK d) ⟨[], none, by rw [List.append_nil], by simp, fun _ h => nomatch h⟩ (fun i a g ha hI => by
      obtain ⟨acc, b4, rfl, la, hacc⟩ := hI
      have hi : i < N := by
        have := (List.getElem?_eq_some_iff.mp ha).1
        simpa using this
      have hav : a < N := List.mem_range.mp (List.mem_of_getElem? ha)
      have lb : i * N ≤ 256 := Nat.le_trans (Nat.mul_le_mul (show i ≤ 16 by omega) hN) (by decide)
      have s := lcGo_map (emb := fun (b : Nat) => PyData.int (b : Int)) (t := ct_law_matters_1) (c := cc_law_matters_1) (f := cf_law_matters_1) (sl := [some (.o 0), some (.d (.int (N : Int))), a2, some (.d (.list (L ++ acc))), some (.d (.int (a : Int))), a5, a6]) (ws := [5]) (ce := ce) (fun b => .list [.int (a : Int), .int (b : Int)]) (xs := List.range N) (by rw [List.length_range]; omega) (fun b _ => pair_step _ _ _ _ _ _ _ _ _)
      rw [← er] at s
      obtain ⟨W, eW⟩ : ∃ W, ((List.range N).map fun (b : Nat) => PyData.list [.int (a : Int), .int (b : Int)]) = W := ⟨_, rfl⟩
      have lW : W.length = N := by rw [← eW, List.length_map, List.length_range]
      have hW : ∀ d ∈ W, shK d := fun d hd => by
        rw [← eW] at hd
        obtain ⟨b, hb, rfl⟩ := List.mem_map.mp hd
        have hb := List.mem_range.mp hb
        exact shK_z (l := [(a : Int), (b : Int)]) sqL (by simp) fun z hz => by
          simp only [List.mem_cons, List.not_mem_nil, or_false] at hz
          rcases hz with rfl | rfl <;> omega
      rw [eW] at s
      have lc : (L ++ acc).length + W.length ≤ 100000 := by rw [List.length_append]; omega
      refine ⟨⟨[some (.o 0), some (.d (.int (N : Int))), a2, some (.d (.list (L ++ (acc ++ W)))), some (.d (.int (a : Int))), a5, a6], ce⟩, .inl ?_, acc ++ W, _, rfl, ?_, fun d hd => (List.mem_append.mp hd).elim (hacc d) (hW d)⟩
      · rw [← List.append_assoc]
        obtain ⟨M, eM⟩ : ∃ M, L ++ acc = M := ⟨_, rfl⟩
        rw [eM] at s lc ⊢
        exact pair_set _ _ _ _ _ _ _ _ _ _ rk lc (by rw [Int.toNat_natCast]; exact s)
      · rw [List.length_append, la, lW, Nat.succ_mul])
  rw [← er] at e
  rw [List.length_range] at la
  exact ⟨acc, b4, e, la, ha⟩
theorem strew_set (a2 a3 b4 a5 : Option R) (i z : Int) (RG es : List PyData) (bx bx3 : List PyData) (rg : ∀ g, rgK false 0 z g = .ok (.d (.list RG)) g) (c3 : ∀ (sl : List (Option R)), callF fn_law_strewn false [.o 0, .d (.list RG)] ⟨sl, [.lst bx]⟩ = .ok (.d (.list es)) ⟨sl, [.lst bx3]⟩) :
    lcSt ct_law_matters_2 cc_law_matters_2 cf_law_matters_2 [some (.o 0), some (.d (.int z)), a2, a3, b4, a5, none] [6] (.int i) [.lst bx] = some (some (.list (cut es none (some 3))), [.lst bx3]) := by
  simp! [lcSt, ct_law_matters_2, cc_law_matters_2, cf_law_matters_2, fRg1_apK, rg, c3]
theorem strew_step {n N : Nat} {bx : List PyData} (h : BoxOk n bx) (hn : n < 700000000) (hN : N ≤ 16) (a2 a3 b4 a5 : Option R) (i : Int) : ∃ (es bx' : List PyData), lcSt ct_law_matters_2 cc_law_matters_2 cf_law_matters_2 [some (.o 0), some (.d (.int (N : Int))), a2, a3, b4, a5, none] [6] (.int i) [.lst bx] = some (some (.list es), [.lst bx']) ∧ shK (.list es) ∧ BoxOk (n + 8 * N) bx' := by
  have er : rng 0 N = (List.range N).map fun (i : Nat) => PyData.int (i : Int) := rng0 N
  have lr : (rng 0 N).length = N := by rw [er, List.length_map, List.length_range]
  obtain ⟨es, bx3, ep, e3, hb3⟩ := strewn_ok (x := .list (rng 0 N)) (ds := rng 0 N) h (by rw [lr]; omega) sqL (by rw [lr]; omega) (by
    rw [er, List.all_map, List.all_eq_true]
    intro m _
    rfl)
  rw [lr] at hb3
  have le := ep.length_eq
  rw [lr] at le
  have c3 := fun (sl : List (Option R)) => callB_new e3 (j := 0) (g := ⟨sl, [.lst bx]⟩) rfl
  have rg := fun (g : G) => rg0K N (by omega) g
  have k3 : cut es none (some (3 : Int)) = es.take 3 := cut_to es 3
  refine ⟨es.take 3, bx3, ?_, ?_, hb3⟩
  · rw [← k3]
    exact strew_set a2 a3 b4 a5 i (N : Int) (rng 0 N) es bx bx3 rg c3
  · refine shG_q sqL (by rw [List.length_take]; omega) fun d hd => ?_
    have hd := ep.mem_iff.mp (List.mem_of_mem_take hd)
    rw [er] at hd
    obtain ⟨m, hm, rfl⟩ := List.mem_map.mp hd
    have hm := List.mem_range.mp hm
    exact shG_int (by omega)
theorem bent_step {n N : Nat} {bx Z : List PyData} (h : BoxOk n bx) (hn : n < 700000000) (l1 : 1 ≤ Z.length) (l2 : Z.length ≤ 300) (hZ : ∀ d ∈ Z, shK d) (a2 b4 a5 : Option R) (i : Int) : ∃ (d bx' : _), lcSt ct_law_matters_3 cc_law_matters_3 cf_law_matters_3 [some (.o 0), some (.d (.int (N : Int))), a2, some (.d (.list Z)), b4, a5, none] [6] (.int i) [.lst bx] = some (some d, [.lst bx']) ∧ shG (10 ^ 31 + 1) 31 420 3 d = true ∧ BoxOk (n + 100) bx' := by
  obtain ⟨d, bx3, hd, e3, hb3⟩ := of_ok (x := .list Z) h (by omega) sqL (by omega) (by omega)
  obtain ⟨q, d2, bx4, e4, hq, hd2, hb4⟩ := bent_gen (b := 10 ^ 31) (L := 30) (by decide) (by decide) (by decide) 2 3 _ bx3 d (by omega) (hZ d hd) hb3 (by omega) (by omega)
  have e4 : fn_law_bent 4 [.o 0, .d d] [.lst bx3] = .ok q [.lst bx4] := e4
  have c3 := fun (sl : List (Option R)) => callB_of e3 (j := 0) (g := ⟨sl, [.lst bx]⟩) false rfl
  have c4 := fun (sl : List (Option R)) => callB_res e4 hq (j := 0) (g := ⟨sl, [.lst bx3]⟩) rfl
  refine ⟨d2, bx4, ?_, hd2, hb4.mono (by omega)⟩
  simp! [lcSt, ct_law_matters_3, cc_law_matters_3, cf_law_matters_3, c3, c4]
/-- the tail -/
theorem rest_ok {n N : Nat} {bx : List PyData} (h : BoxOk n bx) (hn : n < 600000000) (hN : N ≤ 16) (a2 : Option R) {L : List PyData} (hL : L.length ≤ 14) (hk : ∀ d ∈ L, shK d) (hL1 : 1 ≤ L.length) :
    ∃ (M : List PyData) (b4 : Option R), forGo ft_law_matters_1 fu_law_matters_1 (rng 0 N) ⟨[some (.o 0), some (.d (.int (N : Int))), a2, some (.d (.list L)), none, none, none], [.lst bx]⟩ = .ok .nx ⟨[some (.o 0), some (.d (.int (N : Int))), a2, some (.d (.list M)), b4, none, none], [.lst bx]⟩ ∧ M.length ≤ 14 + 256 ∧
    ∃ (A : List PyData) (bx1 : List PyData), lcGo ct_law_matters_2 cc_law_matters_2 cf_law_matters_2 [some (.o 0), some (.d (.int (N : Int))), a2, some (.d (.list M)), b4, none, none] [6] (rng 0 12) [] [.lst bx] = .ok A ⟨[some (.o 0), some (.d (.int (N : Int))), a2, some (.d (.list M)), b4, none, none], [.lst bx1]⟩ ∧ A.length = 12 ∧
    ∃ (E : List PyData) (bx2 : List PyData), lcGo ct_law_matters_3 cc_law_matters_3 cf_law_matters_3 [some (.o 0), some (.d (.int (N : Int))), a2, some (.d (.list (M ++ A))), b4, none, none] [6] (rng 0 10) [] [.lst bx1] = .ok E ⟨[some (.o 0), some (.d (.int (N : Int))), a2, some (.d (.list (M ++ A))), b4, none, none], [.lst bx2]⟩ ∧ E.length = 10 ∧
    (∀ d ∈ M ++ A ++ E, shG (10 ^ 31 + 1) 31 420 3 d = true) ∧ BoxOk (n + 3000) bx2 := by
  obtain ⟨acc, b4, e1, la, hacc⟩ := pairs_ok hN a2 none none [.lst bx] hL
  have lb : N * N ≤ 256 := Nat.mul_le_mul hN hN
  obtain ⟨M, eM⟩ : ∃ M, L ++ acc = M := ⟨_, rfl⟩
  have lM : M.length ≤ 14 + 256 := by rw [← eM, List.length_append]; omega
  have lM1 : 1 ≤ M.length := by rw [← eM, List.length_append]; omega
  have hM : ∀ d ∈ M, shK d := fun d hd => by rw [← eM] at hd; exact (List.mem_append.mp hd).elim (hk d) (hacc d)
  rw [eM] at e1
  have er : rng 0 N = (List.range N).map fun (i : Nat) => PyData.int (i : Int) := rng0 N
  have lr : (rng 0 N).length = N := by rw [er, List.length_map, List.length_range]
  obtain ⟨A, ce', s2, lA, hA, bx1, rfl, hb1⟩ := lcGo_inv (emb := fun (i : Nat) => PyData.int (i : Int)) (t := ct_law_matters_2) (c := cc_law_matters_2) (f := cf_law_matters_2) (sl := [some (.o 0), some (.d (.int (N : Int))), a2, some (.d (.list M)), b4, none, none]) (ws := [6])
    (fun i acc ce => acc.length = i ∧ (∀ d ∈ acc, shK d) ∧ ∃ bx', ce = [.lst bx'] ∧ BoxOk (n + 8 * N * i) bx') (xs := List.range 12) (ce := [.lst bx]) ⟨rfl, (fun _ h => nomatch h), bx, rfl, h⟩ (fun i acc ce hI hi => by rw [hI.1]; rw [List.length_range] at hi; omega) (fun i x acc ce hx hI => by
      obtain ⟨la, hacc, bx2, rfl, hb2⟩ := hI
      have hi : i < 12 := by
        have := (List.getElem?_eq_some_iff.mp hx).1
        simpa using this
      have hm : 8 * N * i ≤ 8 * 16 * 12 := Nat.mul_le_mul (Nat.mul_le_mul (Nat.le_refl 8) hN) (by omega)
      obtain ⟨es, bx3, e3, k3, hb3⟩ := strew_step hb2 (by omega) hN a2 (some (.d (.list M))) b4 none (x : Int)
      refine ⟨some (.list es), [.lst bx3], e3, by rw [List.length_append, la]; rfl, fun z hz => ?_, bx3, rfl, hb3.mono (by rw [Nat.mul_succ]; omega)⟩
      rcases List.mem_append.mp hz with hz | hz
      · exact hacc z hz
      · have : z = .list es := by simpa using hz
        subst this
        exact k3)
  rw [List.length_range] at lA hb1
  rw [← rng0 12] at s2
  have hMA : ∀ d ∈ M ++ A, shK d := fun d hd => (List.mem_append.mp hd).elim (hM d) (hA d)
  have lMA : (M ++ A).length ≤ 300 := by rw [List.length_append]; omega
  have lMA1 : 1 ≤ (M ++ A).length := by rw [List.length_append]; omega
  have hm : 8 * N * 12 ≤ 8 * 16 * 12 := Nat.mul_le_mul (Nat.mul_le_mul (Nat.le_refl 8) hN) (by omega)
  have hb1 := hb1.mono (show n + 8 * N * 12 ≤ n + 1536 by omega)
  refine ⟨M, b4, e1, lM, A, bx1, s2, lA, ?_⟩
  obtain ⟨Z, eZ⟩ : ∃ Z, M ++ A = Z := ⟨_, rfl⟩
  rw [eZ] at hMA lMA lMA1 ⊢
  obtain ⟨E, ce', s3, lE, hE, bx', rfl, hb'⟩ := lcGo_inv (emb := fun (i : Nat) => PyData.int (i : Int)) (t := ct_law_matters_3) (c := cc_law_matters_3) (f := cf_law_matters_3) (sl := [some (.o 0), some (.d (.int (N : Int))), a2, some (.d (.list Z)), b4, none, none]) (ws := [6])
    (fun i acc ce => acc.length = i ∧ (∀ d ∈ acc, shG (10 ^ 31 + 1) 31 420 3 d = true) ∧ ∃ bx', ce = [.lst bx'] ∧ BoxOk (n + 1536 + 100 * i) bx') (xs := List.range 10) (ce := [.lst bx1]) ⟨rfl, (fun _ h => nomatch h), bx1, rfl, hb1⟩ (fun i acc ce hI hi => by rw [hI.1]; rw [List.length_range] at hi; omega) (fun i x acc ce hx hI => by
      obtain ⟨la, hacc, bx2, rfl, hb2⟩ := hI
      have hi : i < 10 := by
        have := (List.getElem?_eq_some_iff.mp hx).1
        simpa using this
      obtain ⟨d2, bx4, e4, hd2, hb4⟩ := bent_step (N := N) hb2 (by omega) lMA1 lMA hMA a2 b4 none (x : Int)
      refine ⟨some d2, [.lst bx4], e4, by rw [List.length_append, la]; rfl, fun z hz => ?_, bx4, rfl, hb4.mono (by omega)⟩
      rcases List.mem_append.mp hz with hz | hz
      · exact hacc z hz
      · have : z = d2 := by simpa using hz
        subst this
        exact hd2)
  rw [List.length_range] at lE hb'
  rw [← rng0 10] at s3
  refine ⟨E, bx', s3, lE, fun d hd => ?_, hb'.mono (by omega)⟩
  rcases List.mem_append.mp hd with hd | hd
  · exact shG_mono (by omega) (by omega) 2 3 d (by omega) (hMA d hd)
  · exact hE d hd
theorem shK0 : ∀ d ∈ ([.none, .list [], .tuple [], .int 0, .str "cycle", .list [.int 0], .list [.int 0, .int 0], .tuple [.int 0, .int 1]] : List PyData), shK d := by decide +kernel
theorem matters_none {n N : Nat} {bx : List PyData} (h : BoxOk n bx) (hn : n < 600000000) (hN : N ≤ 16) :
    ∃ (ds bx' : List PyData), fn_law_matters [.o 0, .d (.int (N : Int)), .d .none] [.lst bx] = .ok (.dat (.list ds)) [.lst bx'] ∧ (∀ d ∈ ds, shG (10 ^ 31 + 1) 31 420 3 d = true) ∧ BoxOk (n + 3000) bx' := by
  obtain ⟨L, eL⟩ : ∃ L : List PyData, [.none, .none, .list [], .tuple [], .int 0, .str "cycle", .list [.int 0], .list [.int 0, .int 0], .tuple [.int 0, .int 1]] = L := ⟨_, rfl⟩
  have hk : ∀ d ∈ L, shK d := fun d hd => by
    rw [← eL] at hd
    rcases List.mem_cons.mp hd with rfl | hd
    · exact shK0 _ List.mem_cons_self
    · exact shK0 d hd
  obtain ⟨M, b4, e1, lM, A, bx1, s2, lA, E, bx2, s3, lE, hE, hb⟩ := rest_ok h hn hN (some (.d .none)) (L := L) (by rw [← eL]; simp) hk (by rw [← eL]; simp)
  have rk : rOk (N : Int) = true := rOk_of (by omega) (by omega)
  have r12 : rOk (12 : Int) = true := by decide
  have r10 : rOk (10 : Int) = true := by decide
  have l1 : M.length + A.length ≤ 100000 := by omega
  have l2 : (M ++ A).length + E.length ≤ 100000 := by rw [List.length_append]; omega
  obtain ⟨Z, eZ⟩ : ∃ Z, M ++ A = Z := ⟨_, rfl⟩
  rw [eZ] at s3 l2
  refine ⟨Z ++ E, bx2, ?_, by rw [← eZ]; exact hE, hb⟩
  have lL : L.length ≤ 100000 := by rw [← eL]; simp
  simp! only [fn_law_matters, b_law_matters, eL, lL, rk, Int.toNat_natCast, e1, r12, s2, cat2, l1, eZ, r10, s3, l2]
theorem matters_some {n N : Nat} {bx : List PyData} (h : BoxOk n bx) (hn : n < 600000000) (hN : N ≤ 16) {c : List Int} (hc : c.length ≤ 15) (hb : ∀ z ∈ c, z.natAbs < 10 ^ 31) :
    ∃ (ds bx' : List PyData), fn_law_matters [.o 0, .d (.int (N : Int)), .d (.list (zD c))] [.lst bx] = .ok (.dat (.list ds)) [.lst bx'] ∧ (∀ d ∈ ds, shG (10 ^ 31 + 1) 31 420 3 d = true) ∧ BoxOk (n + 3000) bx' := by
  have k1 : cut (zD c) (some 1) none = zD (c.drop 1) := cutZ_from c 1
  have k2 : cut (zD c) none (some 1) = zD (c.take 1) := cutZ_to c 1
  have k3 : zD (c.drop 1) ++ zD (c.take 1) = zD (c.drop 1 ++ c.take 1) := by unfold zD; rw [List.map_append]
  have k4 : zD c ++ zD c = zD (c ++ c) := by unfold zD; rw [List.map_append]
  have er : (zD c).reverse = zD c.reverse := by unfold zD; rw [List.map_reverse]
  obtain ⟨L1, eL1⟩ : ∃ L : List PyData, [.list (zD c), .none, .list [], .tuple [], .int 0, .str "cycle", .list [.int 0], .list [.int 0, .int 0], .tuple (zD c)] = L := ⟨_, rfl⟩
  obtain ⟨L2, eL2⟩ : ∃ L : List PyData, [.list (zD (c.drop 1 ++ c.take 1)), .list (zD c.reverse), .list (zD (c ++ c)), .list (zD (c.drop 1)), .list (.bool true :: zD (c.drop 1))] = L := ⟨_, rfl⟩
  have l1 : L1.length = 9 := by rw [← eL1]; rfl
  have l2 : L2.length = 5 := by rw [← eL2]; rfl
  have hk : ∀ d ∈ L1 ++ L2, shK d := fun d hd => by
    rcases List.mem_append.mp hd with hd | hd
    · rw [← eL1] at hd
      simp only [List.mem_cons, List.not_mem_nil, or_false] at hd
      rcases hd with rfl | rfl | rfl | rfl | rfl | rfl | rfl | rfl | rfl
      · exact shK_z sqL (by omega) hb
      all_goals first | exact shK_z sqT (by omega) hb | exact shK0 _ (by simp)
    · rw [← eL2] at hd
      simp only [List.mem_cons, List.not_mem_nil, or_false] at hd
      rcases hd with rfl | rfl | rfl | rfl | rfl
      · exact shK_z sqL (by rw [List.length_append, List.length_drop, List.length_take]; omega) fun z hz => hb z ((List.mem_append.mp hz).elim List.mem_of_mem_drop List.mem_of_mem_take)
      · exact shK_z sqL (by rw [List.length_reverse]; omega) fun z hz => hb z (List.mem_reverse.mp hz)
      · exact shK_z sqL (by rw [List.length_append]; omega) fun z hz => hb z ((List.mem_append.mp hz).elim id id)
      · exact shK_z sqL (by rw [List.length_drop]; omega) fun z hz => hb z (List.mem_of_mem_drop hz)
      · refine shG_q sqL (by rw [List.length_cons]; unfold zD; rw [List.length_map, List.length_drop]; omega) fun d hd => ?_
        rcases List.mem_cons.mp hd with rfl | hd
        · rfl
        · obtain ⟨z, hz, rfl⟩ := List.mem_map.mp hd
          exact shG_int (hb z (List.mem_of_mem_drop hz))
  obtain ⟨M, b4, e1, lM, A, bx1, s2, lA, E, bx2, s3, lE, hE, hb2⟩ := rest_ok h hn hN (some (.d (.list (zD c)))) (L := L1 ++ L2) (by rw [List.length_append]; omega) hk (by rw [List.length_append]; omega)
  have rk : rOk (N : Int) = true := rOk_of (by omega) (by omega)
  have r12 : rOk (12 : Int) = true := by decide
  have r10 : rOk (10 : Int) = true := by decide
  have l12 : L1.length + L2.length ≤ 100000 := by omega
  have lMA : M.length + A.length ≤ 100000 := by omega
  have lE2 : (M ++ A).length + E.length ≤ 100000 := by rw [List.length_append]; omega
  obtain ⟨Z, eZ⟩ : ∃ Z, M ++ A = Z := ⟨_, rfl⟩
  rw [eZ] at s3 lE2
  have lc : (c.drop 1).length + (c.take 1).length ≤ 100000 := by rw [List.length_drop, List.length_take]; omega
  have lcc : c.length + c.length ≤ 100000 := by omega
  have lb : 1 + (c.drop 1).length ≤ 100000 := by rw [List.length_drop]; omega
  refine ⟨Z ++ E, bx2, ?_, by rw [← eZ]; exact hE, hb2⟩
  have lL1 : L1.length ≤ 100000 := by omega
  have lL2 : L2.length ≤ 100000 := by omega
  simp! only [fn_law_matters, b_law_matters, eL1, lL1, lL2, k1, k2, er, cat2, lc, lcc, lb, k3, k4, eL2, l12, rk, Int.toNat_natCast, e1, r12, s2, lMA, eZ, r10, s3, lE2]
end DL
set_option Elab.async false
set_option linter.all false
set_option maxRecDepth 100000
set_option maxHeartbeats 1000000
set_option autoImplicit false
namespace DL
open PySem PySem.Spec PyProof.Rows L2
noncomputable def lawElt (fn : Fn) : FE := fCall fn false (fCons (fCall fn_law_box true (fCons (fVar 0) (fCons (fVar 1) fNil))) fNil)
noncomputable def lawAll (k : Int) (fn : Fn) : FS :=
  (sRt (fCl clAll (fCons (fLc (iRg1 (fCons (fOp opAdd (fC (.int 1)) (fCl clMin (fCons (fC (.int k)) (fCons (fCl clLen (fCons (fVar 0) fNil)) fNil)))) fNil)) (tN 1) fYes (lawElt fn) [1]) fNil)))
theorem law_all {fn : Fn} (k : Nat) (hk : k < 60) (h : ∀ bx, BoxOk 0 bx → ∃ bx', fn [.o 0] [.lst bx] = .ok (.dat (.bool true)) [.lst bx']) (ns : List Int) : mkFn 2 (lawAll k fn) [.s ns] [] = .ok (.dat (.bool true)) [] := by
  obtain ⟨m, hm, em⟩ : ∃ m : Nat, m < 62 ∧ (1 + (if ((ns.length : Nat) : Int) < (k : Int) then ((ns.length : Nat) : Int) else (k : Int))) = (m : Int) := by
    refine ⟨(1 + (if ((ns.length : Nat) : Int) < (k : Int) then ((ns.length : Nat) : Int) else (k : Int))).toNat, ?_, ?_⟩ <;> split <;> omega
  have rk : rOk (m : Int) = true := rOk_of (by omega) (by omega)
  obtain ⟨acc, ce', e, ea⟩ := lcGo_inv (emb := fun (i : Nat) => PyData.int (i : Int)) (t := tN 1) (c := fYes) (f := lawElt fn) (sl := [some (.s ns), none]) (ws := [1]) (fun i acc ce => acc = (List.replicate i true).map PyData.bool) (xs := List.range m) (ce := []) rfl (fun i acc ce hI hi => by
      rw [hI, List.length_map, List.length_replicate]
      rw [List.length_range] at hi
      omega) (fun i x acc ce hx hI => by
      have hi : i < m := by
        have := (List.getElem?_eq_some_iff.mp hx).1
        simpa using this
      have ex : x = i := by
        have := (List.getElem?_eq_some_iff.mp hx).2
        simpa using this.symm
      subst ex
      obtain ⟨bx, b1, b2⟩ := box_ok ns x (by omega)
      obtain ⟨bx', b3⟩ := h bx b2
      have c1 := call_newO b1 ⟨[some (.s ns), some (.d (.int x))], ce⟩
      have c2 := callB_of b3 (j := ce.length) (g := ⟨[some (.s ns), some (.d (.int x))], ce ++ [.lst bx]⟩) false (by simp)
      refine ⟨some (.bool true), (ce ++ [Ct.lst bx]).set ce.length (Ct.lst bx'), ?_, ?_⟩
      · simp! [lcSt, lawElt, c1, c2]
      · rw [hI, List.replicate_succ', List.map_append]; rfl)
  rw [← rng0] at e
  rw [ea] at e
  simp! [lawAll, em, rk, Int.toNat_natCast, e]
  simp
end DL
set_option Elab.async false
set_option linter.all false
set_option maxRecDepth 100000
set_option maxHeartbeats 1000000
set_option autoImplicit false
namespace DL
open PySem PySem.Spec PyProof.Rows L2
noncomputable def ft_law_right_2 : FG := (tN 6)
noncomputable def fu_law_right_2 : FS := (sSq (sP2 7 8 (fCons (fCl clRepr (fCons (fVar 6) fNil)) (fCons (fCall fn_law_is_cycle false (fCons (fVar 4) (fCons (fVar 6) fNil))) fNil)))
      (sSq (sSet (fLstO (fCons (fCall fn_shows_cycle false (fCons (fVar 2) (fCons (fVar 3) (fCons (fVar 6) fNil)))) fNil)) (tN 9))
      (sSq (sEx (fMt mtAppend (fVar 9) (fCons (fCall fn_shows_cycle false (fPerm [2, 1, 0] (fCons (fVar 6) (fCons (fCall (fn_law_lists 4) false (fCons (fVar 3) fNil)) (fCons (fVar 2) fNil))))) fNil)))
      (sIte (fOrT (fNotT (fTst (fLoan (fCall (fn_law_same 4) false (fCons (fVar 9) (fCons (fLst (fCons (fVar 8) (fCons (fVar 8) fNil))) fNil)))))) (fTst (fOp opNeS (fCl clRepr (fCons (fVar 6) fNil)) (fVar 7)))) (sRt (fC (.bool false))) sNx))))
noncomputable def ft_law_right_1 : FG := (tN 1)
noncomputable def fu_law_right_1 : FS := (sSq (sSet (fOp opAdd (fC (.int 3)) (fCall (fn_law_take 4) false (fCons (fVar 0) (fCons (fC (.int 5)) fNil)))) (tN 2))
    (sSq (sSet (fCall fn_law_tests false (fCons (fVar 0) (fCons (fVar 2) (fCons (fC (.int 10)) (fCons (fCall fn_law_of false (fCons (fVar 0) (fCons (fLst (fCons (fC (.int 2)) (fCons (fC (.int 12)) (fCons (fC (.int 24)) fNil)))) fNil))) fNil))))) (tN 3))
    (sSq (sP2 4 5 (fCons (fOp opIx (fCall fn_law_seen_in false (fCons (fVar 2) (fCons (fVar 3) fNil))) (fC (.int 1))) (fCons (fCall fn_cycle true (fCons (fVar 2) (fCons (fVar 3) fNil))) fNil)))
    (sSq (sIte (fTst (fOp opNe (fOp opIsN (fVar 5) (fC .none)) (fCall fn_law_is_free false (fCons (fVar 2) (fCons (fVar 4) fNil))))) (sRt (fC (.bool false))) sNx)
    (sSq (sIte (fAndT (fTst (fOp opNotN (fVar 5) (fC .none))) (fNotT (fTst (fLoan (fCall fn_law_is_cycle false (fCons (fVar 4) (fCons (fVar 5) fNil))))))) (sRt (fC (.bool false))) sNx)
    (sSq (sLoanS 5 (sFr (iSeq (fCall fn_law_matters false (fCons (fVar 0) (fCons (fVar 2) (fCons (fDat (fVar 5)) fNil))))) ft_law_right_2 fu_law_right_2))
    (sIte (fTst (fOp opNotN (fVar 5) (fC .none))) (sSq (sSet (fCl clRepr (fCons (fVar 5) fNil)) (tN 7))
      (sSq (sEx (fMt mtAppend (fVar 5) (fCons (fC (.str "more")) fNil)))
      (sIte (fTst (fOp opNeS (fCl clRepr (fCons (fCall fn_cycle false (fPerm [1, 0] (fCons (fVar 3) (fCons (fVar 2) fNil)))) fNil)) (fVar 7))) (sRt (fC (.bool false))) sNx))) sNx)))))))
noncomputable def b_law_right : FS :=
  (sSq (sFr (iRg1 (fCons (fC (.int 2)) fNil)) ft_law_right_1 fu_law_right_1)
  (sRt (fC (.bool true))))
noncomputable def fn_law_right : Fn := mkFn 10 b_law_right
theorem emT (ps : List (Nat × Nat)) : psD (ps.map castP) = ps.map fun p => emP true (castP p) := by unfold psD; rw [List.map_map]; rfl
theorem emF (ps : List (Nat × Nat)) : ((ps.map castP).map fun p => PyData.list [.int p.1, .int p.2]) = ps.map fun p => emP false (castP p) := by rw [List.map_map]; rfl
theorem noDict_G {d : PyData} {b L n : Nat} (hb : b ≤ 10 ^ 40) (hL : 1 ≤ L) (hd : shG b L 420 n d = true) : d.hasDict = false := (shG_facts hb (by decide) hL n d hd).2.1
theorem cycR_none {n : Nat} {ps : List (Nat × Nat)} (h : (ord2 n ps).2 = []) : cycR n ps = .dat .none := if_pos h
theorem cycR_some {n : Nat} {ps : List (Nat × Nat)} (h : (ord2 n ps).2 ≠ []) : cycR n ps = .newC (.lst (zD (cycM n ps))) := if_neg h
theorem free_z (ds : List PyData) : ∀ l : List Int, FreeAll ds (zD l)
  | [] => by show FreeAll ds []; unfold FreeAll; trivial
  | z :: l => by
    show FreeAll ds (.int z :: zD l)
    unfold FreeAll
    exact ⟨by unfold Free; trivial, free_z ds l⟩
theorem free_T (ds : List PyData) : ∀ L : List (List Int), FreeAll ds (L.map tupD)
  | [] => by show FreeAll ds []; unfold FreeAll; trivial
  | k :: L => by
    show FreeAll ds (.tuple (zD k) :: L.map tupD)
    unfold FreeAll
    exact ⟨by unfold Free; exact free_z ds k, free_T ds L⟩
theorem psD_T (ps : List (Int × Int)) : psD ps = (ps.map fun p => [p.1, p.2]).map tupD := by unfold psD; rw [List.map_map]; rfl
theorem tup_ne {c : List Int} (hc : 2 ≤ c.length) (L : List (List Int)) : L.map tupD ≠ zD c := by
  cases c with
  | nil => simp at hc
  | cons z c =>
    cases L with
    | nil => intro e; cases e
    | cons k L =>
      intro e
      have e : PyData.tuple (zD k) :: L.map tupD = .int z :: zD c := e
      injection e with e1 _
      cases e1
theorem fr_T {c : List Int} (hc : 2 ≤ c.length) (L : List (List Int)) : Free (zD c) (.list (L.map tupD)) := by
  unfold Free
  exact ⟨tup_ne hc L, free_T _ L⟩
theorem clnR_d {ds : List PyData} {x : PyData} (h : Free ds x) : clnR ds (some (.d x)) = some (.d x) := if_pos h
theorem clnR_o (ds : List PyData) (j : Nat) : clnR ds (some (.o j)) = some (.o j) := rfl
theorem clnC_l {ds es : List PyData} (h : FreeAll ds es) : clnC ds (.lst es) = .lst es := if_pos h
theorem box_free {n : Nat} {bx : List PyData} (h : BoxOk n bx) (ds : List PyData) : FreeAll ds bx := by
  obtain ⟨l, rfl⟩ : ∃ l : List Int, bx = zD l := by
    obtain ⟨a, b, c, rfl, _⟩ := h
    exact ⟨[a, b, c], rfl⟩
  exact free_z ds l
theorem fin_ok {c : List Int} (hc : 2 ≤ c.length) {n : Nat} {bx : List PyData} (h : BoxOk n bx) (i N : Int) (P K : List (List Int)) (tl : List Ct) (x : Ct) (ts : List Ct) (b6 b7 b8 b9 : Option R) :
    ∃ T, loanFin 5 (tl.length + 1) (zD c) ⟨[some (.o 0), some (.d (.int i)), some (.d (.int N)), some (.d (.list (P.map tupD))), some (.d (.list (K.map tupD))), some (.f (tl.length + 1) (zD c)), b6, b7, b8, b9], .lst bx :: (tl ++ [x] ++ ts)⟩ =
      ⟨[some (.o 0), some (.d (.int i)), some (.d (.int N)), some (.d (.list (P.map tupD))), some (.d (.list (K.map tupD))), some (.o (tl.length + 1)), clnR (zD c) b6, clnR (zD c) b7, clnR (zD c) b8, clnR (zD c) b9], .lst bx :: T⟩ ∧ T[tl.length]? = some (.lst (zD c)) := by
  refine ⟨((tl ++ [x] ++ ts).map (clnC (zD c))).set tl.length (.lst (zD c)), ?_, ?_⟩
  · unfold loanFin
    simp only [List.map_cons, List.map_nil, List.set_cons_succ, List.set_cons_zero, clnR_o, clnR_d (fr_T hc P), clnR_d (fr_T hc K), clnC_l (box_free h (zD c))]
    rw [clnR_d (x := .int i) (by unfold Free; trivial), clnR_d (x := .int N) (by unfold Free; trivial)]
  · rw [List.getElem?_set_self]
    rw [List.length_map, List.length_append, List.length_append, List.length_singleton]
    omega
theorem cyc_loan (a0 a1 a2 a3 a6 a7 a8 a9 : Option R) {K C : List PyData} {j : Nat} {CE : List Ct} (hj : CE[j]? = some (.lst C)) (ci : fn_law_is_cycle [.d (.list K), .d (.list C)] [] = .ok (.dat (.bool true)) []) :
    fLoan (fCall fn_law_is_cycle false (fCons (fVar 4) (fCons (fVar 5) fNil))) ⟨[a0, a1, a2, a3, some (.d (.list K)), some (.o j), a6, a7, a8, a9], CE⟩ = .ok (.d (.bool true)) ⟨[a0, a1, a2, a3, some (.d (.list K)), some (.o j), a6, a7, a8, a9], CE⟩ := by
  rw [fLoan_ap]
  unfold gLoan
  simp only [List.map_cons, List.map_nil, loanO_d]
  rw [loanO_o hj]
  simp! [call_of ci]
  exact loanK_ok _ _ rfl
theorem same_loan (a0 a1 a2 a3 a4 a5 a6 a7 : Option R) (b : Bool) (ce : List Ct) :
    fLoan (fCall (fn_law_same 4) false (fCons (fVar 9) (fCons (fLst (fCons (fVar 8) (fCons (fVar 8) fNil))) fNil))) ⟨[a0, a1, a2, a3, a4, a5, a6, a7, some (.d (.bool b)), some (.o ce.length)], ce ++ [.lst [.bool b, .bool b]]⟩ = .ok (.d (.bool true)) ⟨[a0, a1, a2, a3, a4, a5, a6, a7, some (.d (.bool b)), some (.o ce.length)], ce ++ [.lst [.bool b, .bool b]]⟩ := by
  have q4 := same_ok 4 (.list [.bool b, .bool b]) rfl
  have g9 : (ce ++ [Ct.lst [.bool b, .bool b]])[ce.length]? = some (.lst [.bool b, .bool b]) := by simp
  rw [fLoan_ap]
  unfold gLoan
  simp only [List.map_cons, List.map_nil, loanO_d]
  rw [loanO_o g9]
  simp! [call_of q4]
  exact loanK_ok _ _ rfl
theorem each_ok {N : Nat} {ps : List (Nat × Nat)} (hN : N ≤ 16) (vp : ∀ p ∈ ps, VP N p) (lp : ps.length ≤ 20) {d : PyData} (hd : shG (10 ^ 31 + 1) 31 420 3 d = true) (a0 a1 a5 a6 a7 a8 a9 : Option R) (ce : List Ct) :
    ∃ b7 b8 b9 W, forSt ft_law_right_2 fu_law_right_2 d ⟨[a0, a1, some (.d (.int (N : Int))), some (.d (.list (psD (ps.map castP)))), some (.d (.list ((prsM N ps).map tupD))), a5, a6, a7, a8, a9], ce⟩ = .ok .nx ⟨[a0, a1, some (.d (.int (N : Int))), some (.d (.list (psD (ps.map castP)))), some (.d (.list ((prsM N ps).map tupD))), a5, some (.d d), b7, b8, b9], ce ++ [.lst W]⟩ := by
  have hnd := noDict_G (by decide) (by decide) hd
  have hl : ∀ ds, d = .list ds → ds.length ≤ 4000 := fun ds e => by
    subst e
    have := (shG_in sqL hd).1
    omega
  have hk := reprOk_G (by decide) (by decide) (by decide) (by decide +kernel) (by decide) hd
  have rp := fun (sl : List (Option R)) (ce : List Ct) => clRepr_ap ⟨sl, ce⟩ (.d d) rfl hk
  have b2 : ∀ k ∈ prsM N ps, ∃ a b : Int, k = [a, b] := fun k hk => by
    obtain ⟨a, b, _, _, e⟩ := prs_bd vp k hk
    exact ⟨_, _, e⟩
  have q1 := is_cycle_gen b2 d hnd hl
  have q2 := shows_gen (z := .list (psD (ps.map castP))) true (.inl (by rw [emT])) hN vp d hnd hl
  have q3 := shows_gen (z := .list ((ps.map castP).map fun p => .list [.int p.1, .int p.2])) false (.inl (by rw [emF])) hN vp d hnd hl
  have li := lists_ps 1 (ps := ps.map castP) (x := .list (psD (ps.map castP))) (.inl rfl) (by rw [List.length_map]; omega)
  obtain ⟨b, eb⟩ : ∃ b, cycB (prsM N ps) d = b := ⟨_, rfl⟩
  rw [eb] at q1 q2 q3
  have gx : ∀ x : Ct, (ce ++ [x])[ce.length]? = some x := fun x => by simp
  have sx : ∀ x y : Ct, (ce ++ [x]).set ce.length y = ce ++ [y] := fun x y => by simp
  obtain ⟨P, eP⟩ : ∃ P, psD (ps.map castP) = P := ⟨_, rfl⟩
  obtain ⟨PL, ePL⟩ : ∃ PL : List PyData, ((ps.map castP).map fun p => PyData.list [.int p.1, .int p.2]) = PL := ⟨_, rfl⟩
  obtain ⟨K, eK⟩ : ∃ K, (prsM N ps).map tupD = K := ⟨_, rfl⟩
  rw [eP] at q2 li ⊢
  rw [ePL] at q3 li
  rw [eK] at q1 ⊢
  have sl := same_loan a0 a1 (some (.d (.int (N : Int)))) (some (.d (.list P))) (some (.d (.list K))) a5 (some (.d d)) (some (.d (.str d.shown))) b ce
  refine ⟨some (.d (.str d.shown)), some (.d (.bool b)), some (.o ce.length), [.bool b, .bool b], ?_⟩
  simp! [ft_law_right_2, fu_law_right_2, rp, call_of q1, call_of q2, gx, sx, call_lst li, call_of q3, sl, opNeS_ap]
theorem loop_ok {N : Nat} {ps : List (Nat × Nat)} (hN : N ≤ 16) (vp : ∀ p ∈ ps, VP N p) (lp : ps.length ≤ 20) {ds : List PyData} (hds : ∀ d ∈ ds, shG (10 ^ 31 + 1) 31 420 3 d = true) (a0 a1 a5 a6 a7 a8 a9 : Option R) (ce : List Ct) :
    ∃ b6 b7 b8 b9 ts, forGo ft_law_right_2 fu_law_right_2 ds ⟨[a0, a1, some (.d (.int (N : Int))), some (.d (.list (psD (ps.map castP)))), some (.d (.list ((prsM N ps).map tupD))), a5, a6, a7, a8, a9], ce⟩ = .ok .nx ⟨[a0, a1, some (.d (.int (N : Int))), some (.d (.list (psD (ps.map castP)))), some (.d (.list ((prsM N ps).map tupD))), a5, b6, b7, b8, b9], ce ++ ts⟩ := by
  obtain ⟨g', e, b6, b7, b8, b9, ts, rfl⟩ := forGo_inv (emb := fun (d : PyData) => d) (t := ft_law_right_2) (u := fu_law_right_2) (xs := ds) (g := ⟨[a0, a1, some (.d (.int (N : Int))), some (.d (.list (psD (ps.map castP)))), some (.d (.list ((prsM N ps).map tupD))), a5, a6, a7, a8, a9], ce⟩)
    (fun _ g => ∃ b6 b7 b8 b9 ts, g = ⟨[a0, a1, some (.d (.int (N : Int))), some (.d (.list (psD (ps.map castP)))), some (.d (.list ((prsM N ps).map tupD))), a5, b6, b7, b8, b9], ce ++ ts⟩) ⟨a6, a7, a8, a9, [], by rw [List.append_nil]⟩ (fun i d g hd hI => by
      obtain ⟨b6, b7, b8, b9, ts, rfl⟩ := hI
      obtain ⟨c7, c8, c9, W, ee⟩ := each_ok hN vp lp (hds d (List.mem_of_getElem? hd)) a0 a1 a5 b6 b7 b8 b9 (ce ++ ts)
      exact ⟨_, .inl ee, _, _, _, _, ts ++ [.lst W], by rw [List.append_assoc]⟩)
  rw [List.map_id'] at e
  exact ⟨b6, b7, b8, b9, ts, e⟩
theorem repr_z {l : List Int} (hl : l.length ≤ 20) (hb : ∀ z ∈ l, z.natAbs < 10 ^ 10) : reprOk (.list (zD l)) = true :=
  reprOk_G (b := 10 ^ 10) (L := 20) (c := 420) (n := 2) (by decide) (by decide) (by decide) (by decide) (by decide) (shG_mono (Nat.le_refl _) (Nat.le_refl _) 1 2 _ (by omega) (shG_z sqL hl hb))
theorem turn_ok {n : Nat} {bx : List PyData} (h : BoxOk n bx) (hn : n < 500000000) (k : Int) (tl : List Ct) (a1 a2 a3 a4 a5 a6 a7 a8 a9 : Option R) :
    ∃ (bx' : List PyData) (tl' : List Ct) (b2 b3 b4 b5 b6 b7 b8 b9 : Option R), forSt ft_law_right_1 fu_law_right_1 (.int k) ⟨[some (.o 0), a1, a2, a3, a4, a5, a6, a7, a8, a9], .lst bx :: tl⟩ = .ok .nx ⟨[some (.o 0), some (.d (.int k)), b2, b3, b4, b5, b6, b7, b8, b9], .lst bx' :: tl'⟩ ∧ BoxOk (n + 8000) bx' := by
  obtain ⟨r, bx1, e1, r0, r1, hb1⟩ := take4 (below := 5) h (by omega) (by omega) (by omega)
  obtain ⟨m, hm⟩ : ∃ m : Nat, r = m := ⟨r.toNat, by omega⟩
  obtain ⟨N, eN⟩ : ∃ N : Nat, 3 + r = N := ⟨3 + m, by omega⟩
  have c1 := fun (sl : List (Option R)) => callB_of e1 (j := 0) (g := ⟨sl, .lst bx :: tl⟩) false rfl
  obtain ⟨d, bx2, hd, e2, hb2⟩ := of_ok (x := .list [.int 2, .int 12, .int 24]) hb1 (by omega) sqL (by simp) (by simp)
  obtain ⟨o, rfl⟩ : ∃ o : Int, d = .int o := by
    simp only [List.mem_cons, List.not_mem_nil, or_false] at hd
    rcases hd with rfl | rfl | rfl <;> exact ⟨_, rfl⟩
  have c2 := fun (sl : List (Option R)) => callB_of e2 (j := 0) (g := ⟨sl, .lst bx1 :: tl⟩) false rfl
  obtain ⟨ps, bx3, e3, vp, lp, hb3⟩ := tests_ok (k := N) (most := 10) (odds := o) hb2 (by omega) (by omega) (by omega)
  have e3 : fn_law_tests [.o 0, .d (.int (N : Int)), .d (.int 10), .d (.int o)] [.lst bx2] = _ := e3
  have c3 := fun (sl : List (Option R)) => callB_new e3 (j := 0) (g := ⟨sl, .lst bx2 :: tl⟩) rfl
  have hN : N ≤ 16 := by omega
  have sn := seen_ok hN vp
  rw [← prs_srt] at sn
  have fr := is_free_ok hN vp
  have hz : Sq (PyData.list (psD (ps.map castP))) (ps.map fun p => emP true (castP p)) := .inl (by rw [emT])
  have cy := cycle_ok true hz hN vp
  have b2 : ∀ k ∈ prsM N ps, ∃ a b : Int, k = [a, b] := fun k hk => by
    obtain ⟨a, b, _, _, e⟩ := prs_bd vp k hk
    exact ⟨_, _, e⟩
  have i1 : ∀ (x y : PyData), atI [x, y] 1 = some y := fun _ _ => rfl
  have sb : ∀ b, SeqAt.shaped (.bool b) = true := by decide
  have eb : ∀ b, PyData.eqv (.bool b) (.bool b) = true := by decide
  by_cases hf : (ord2 N ps).2 = []
  · rw [decide_eq_true hf] at fr
    rw [cycR_none hf] at cy
    obtain ⟨ds, bx4, e4, hds, hb4⟩ := matters_none (N := N) hb3 (by omega) hN
    obtain ⟨b6, b7, b8, b9, ts, lo⟩ := loop_ok hN vp (by omega) hds (some (.o 0)) (some (.d (.int k))) (some (.d .none)) a6 a7 a8 a9 (.lst bx4 :: tl)
    have c4 := fun (sl : List (Option R)) => callB_of e4 (j := 0) (g := ⟨sl, .lst bx3 :: tl⟩) false rfl
    obtain ⟨P, eP⟩ : ∃ P, psD (ps.map castP) = P := ⟨_, rfl⟩
    obtain ⟨K, eK⟩ : ∃ K, (prsM N ps).map tupD = K := ⟨_, rfl⟩
    rw [eP] at c3 sn cy lo
    rw [eK] at sn fr lo
    refine ⟨bx4, tl ++ ts, some (.d (.int (N : Int))), some (.d (.list P)), some (.d (.list K)), some (.d .none), b6, b7, b8, b9, ?_, hb4.mono (by omega)⟩
    simp! only [ft_law_right_1, fu_law_right_1, c1, eN, c2, c3, call_of sn, i1, call_of cy, call_of fr, sb, eb, sLoanS_ap, loanGo_n, fDat_ap, datK_d, c4, lo]
  · rw [decide_eq_false hf] at fr
    rw [cycR_some hf] at cy
    have cb := cycM_bd hf
    have ct := cyc_true hN vp hf (qs := ps) fun k hk => hk
    have e0 : shcM N ps (cycM N ps) = shcP (prsM N ps) (cycM N ps) := rfl
    have ct1 := ct.1
    rw [e0] at ct1
    have ci := is_cycle_gen b2 (.list (zD (cycM N ps))) (noDict_G (b := 10 ^ 10) (L := 20) (n := 1) (by decide) (by decide) (shG_z sqL (by omega) fun z hz => by have := cb.2 z hz; omega)) (fun ds e => by cases e; rw [List.length_map]; omega)
    rw [cycB_z, ct1] at ci
    have lc : (cycM N ps).length ≤ 15 := by
      have := sub_len (b := rngI N) ct.2.1 (fun z hz => by
        obtain ⟨z0, z1⟩ := cb.2 z hz
        unfold rngI
        exact List.mem_map.mpr ⟨z.toNat, List.mem_range.mpr (by omega), by omega⟩)
      rw [(rw_rng N).len] at this
      omega
    have rp := fun (g : G) (r : R) (hr : datOf g r = some (.list (zD (cycM N ps)))) => clRepr_ap g r hr (repr_z (by omega) fun z hz => by have := cb.2 z hz; omega)
    obtain ⟨ds, bx4, e4, hds, hb4⟩ := matters_some (N := N) hb3 (by omega) hN lc (fun z hz => by have := cb.2 z hz; omega)
    obtain ⟨b6, b7, b8, b9, ts, lo⟩ := loop_ok hN vp (by omega) hds (some (.o 0)) (some (.d (.int k))) (some (.f (tl.length + 1) (zD (cycM N ps)))) a6 a7 a8 a9 (.lst bx4 :: (tl ++ [.dead]))
    have c4 := fun (sl : List (Option R)) => callB_of e4 (j := 0) (g := ⟨sl, .lst bx3 :: (tl ++ [.dead])⟩) false rfl
    obtain ⟨T, ft, gT⟩ := fin_ok ct.2.2 hb4 k (N : Int) ((ps.map castP).map fun p => [p.1, p.2]) (prsM N ps) tl .dead ts b6 b7 b8 b9
    rw [← psD_T] at ft
    obtain ⟨C, eC⟩ : ∃ C, zD (cycM N ps) = C := ⟨_, rfl⟩
    have fC := free_z (zD (cycM N ps)) (cycM N ps)
    obtain ⟨P, eP⟩ : ∃ P, psD (ps.map castP) = P := ⟨_, rfl⟩
    obtain ⟨K, eK⟩ : ∃ K, (prsM N ps).map tupD = K := ⟨_, rfl⟩
    rw [eP] at c3 sn cy lo ft
    rw [eK] at sn fr lo ci ft
    rw [eC] at cy ci c4 lo ft gT rp fC
    have gj : (tl ++ [Ct.lst C])[tl.length]? = some (.lst C) := by simp
    have sj : (tl ++ [Ct.lst C]).set tl.length .dead = tl ++ [.dead] := by simp
    have lC : C.length < 100000 := by rw [← eC, List.length_map]; omega
    obtain ⟨S, eS⟩ : ∃ S, (PyData.list C).shown = S := ⟨_, rfl⟩
    rw [eS] at rp
    have cyN : ∀ sl : List (Option R), callF fn_cycle true [.d (.int (N : Int)), .d (.list P)] ⟨sl, .lst bx3 :: tl⟩ = .ok (.o (tl.length + 1)) ⟨sl, .lst bx3 :: (tl ++ [.lst C])⟩ := fun sl => call_newO cy ⟨sl, .lst bx3 :: tl⟩
    have gj1 : (Ct.lst bx3 :: (tl ++ [Ct.lst C]))[tl.length + 1]? = some (.lst C) := by rw [List.getElem?_cons_succ]; exact gj
    have il := fun (a0 a1 a2 a3 a6 a7 a8 a9 : Option R) => cyc_loan a0 a1 a2 a3 a6 a7 a8 a9 gj1 ci
    have lg : ∀ (S : FS) (sl : List (Option R)), loanGo 5 S ⟨sl, .lst bx3 :: (tl ++ [.lst C])⟩ (some (some (.o (tl.length + 1)))) = loanEnd 5 (tl.length + 1) C (S ⟨sl.set 5 (some (.f (tl.length + 1) C)), .lst bx3 :: (tl ++ [.dead])⟩) := fun S sl => by
      rw [loanGo_o (ds := C) gj1]
      simp only [List.set_cons_succ, sj]
    have le : loanEnd 5 (tl.length + 1) C (.ok .nx ⟨[some (.o 0), some (.d (.int k)), some (.d (.int (N : Int))), some (.d (.list P)), some (.d (.list K)), some (.f (tl.length + 1) C), b6, b7, b8, b9], .lst bx4 :: (tl ++ [.dead] ++ ts)⟩) = .ok .nx ⟨[some (.o 0), some (.d (.int k)), some (.d (.int (N : Int))), some (.d (.list P)), some (.d (.list K)), some (.o (tl.length + 1)), clnR C b6, clnR C b7, clnR C b8, clnR C b9], .lst bx4 :: T⟩ := (loanEnd_nx rfl fC).trans (by rw [ft])
    have rp1 : ∀ sl : List (Option R), clRepr ⟨sl, .lst bx4 :: T⟩ [.o (tl.length + 1)] = some (.d (.str S)) := fun sl => rp _ _ (by simp only [datOf, List.getElem?_cons_succ, gT])
    have rp2 : ∀ (sl : List (Option R)) (ce : List Ct), clRepr ⟨sl, ce⟩ [.d (.list C)] = some (.d (.str S)) := fun sl ce => rp _ _ rfl
    refine ⟨bx4, T.set tl.length (.lst (C ++ [.str "more"])), some (.d (.int (N : Int))), some (.d (.list P)), some (.d (.list K)), some (.o (tl.length + 1)), clnR C b6, some (.d (.str S)), clnR C b8, clnR C b9, ?_, hb4.mono (by omega)⟩
    simp! only [ft_law_right_1, fu_law_right_1, c1, eN, c2, c3, call_of sn, i1, cyN, call_of fr, sb, eb, il, sLoanS_ap, lg, fDat_ap, datK_f, c4, lo, le, rp1, rp2, gT, lC, call_lst cy, opNeS_ap]
theorem right_ok {bx : List PyData} (h : BoxOk 0 bx) : ∃ bx', fn_law_right [.o 0] [.lst bx] = .ok (.dat (.bool true)) [.lst bx'] := by
  have r3 : rOk (2 : Int) = true := by decide
  obtain ⟨g', f, bx', tl, a1, a2, a3, a4, a5, a6, a7, a8, a9, rfl, hb'⟩ := forGo_inv (emb := fun (i : Nat) => PyData.int (i : Int)) (t := ft_law_right_1) (u := fu_law_right_1) (xs := List.range 2) (g := ⟨[some (.o 0), none, none, none, none, none, none, none, none, none], [.lst bx]⟩)
    (fun i g => ∃ bx' tl a1 a2 a3 a4 a5 a6 a7 a8 a9, g = ⟨[some (.o 0), a1, a2, a3, a4, a5, a6, a7, a8, a9], .lst bx' :: tl⟩ ∧ BoxOk (8000 * i) bx') ⟨bx, [], none, none, none, none, none, none, none, none, none, rfl, h⟩ (fun i z g hz hI => by
      obtain ⟨bx, tl, a1, a2, a3, a4, a5, a6, a7, a8, a9, rfl, hb⟩ := hI
      have hi : i < 2 := by
        have := (List.getElem?_eq_some_iff.mp hz).1
        simpa using this
      obtain ⟨bx2, tl2, b2, b3, b4, b5, b6, b7, b8, b9, e, hb2⟩ := turn_ok hb (by omega) (z : Int) tl a1 a2 a3 a4 a5 a6 a7 a8 a9
      exact ⟨_, .inl e, bx2, tl2, _, b2, b3, b4, b5, b6, b7, b8, b9, rfl, hb2.mono (by omega)⟩)
  rw [← rng0 2] at f
  refine ⟨bx', ?_⟩
  simp! [fn_law_right, b_law_right, r3, f]
noncomputable def ct_law_1 : FG := (tN 1)
noncomputable def cc_law_1 : FT := fYes
noncomputable def cf_law_1 : FE := (fCall fn_law_right false (fCons (fCall fn_law_box true (fCons (fVar 0) (fCons (fVar 1) fNil))) fNil))
noncomputable def b_law : FS :=
  (sRt (fCl clAll (fCons (fLc (iRg1 (fCons (fOp opAdd (fC (.int 1)) (fCl clMin (fCons (fC (.int 3)) (fCons (fCl clLen (fCons (fVar 0) fNil)) fNil)))) fNil)) ct_law_1 cc_law_1 cf_law_1 [1]) fNil)))
noncomputable def fn_law : Fn := mkFn 2 b_law
theorem law_true (ns : List Int) : fn_law [.s ns] [] = .ok (.dat (.bool true)) [] := law_all 3 (by decide) (fun _ h => right_ok h) ns
end DL
end
set_option Elab.async false
set_option linter.all false
set_option maxRecDepth 100000
set_option maxHeartbeats 4000000
set_option autoImplicit false
namespace LawP
open PySem PySem.Spec PyProof.Rows L2 DL
def topS (i : Nat) : Stmt := PySem.Challenge.pw_overlooks_k35_cycles_shown_or_not.main.body.getD i (.Pass ⟨0, 0, 0, 0⟩)
abbrev s_is_number : Stmt := topS 1
abbrev N_is_number : List Str := ["thing"]
theorem sc_is_number : FnScope N_is_number ["thing"] (defScope s_is_number) := ⟨rfl, rfl, rfl, by decide +kernel, rfl, by decide +kernel, by decide +kernel⟩
abbrev s_swapped : Stmt := topS 3
abbrev N_swapped : List Str := ["row", "pair", "i", "j"]
theorem sc_swapped : FnScope N_swapped ["row", "pair"] (defScope s_swapped) := ⟨rfl, rfl, rfl, by decide +kernel, rfl, by decide +kernel, by decide +kernel⟩
abbrev s_comparisons : Stmt := topS 5
abbrev N_comparisons : List Str := ["many", "reports", "here", "found", "i", "j", "low"]
theorem sc_comparisons : FnScope N_comparisons ["many", "reports"] (defScope s_comparisons) := ⟨rfl, rfl, rfl, by decide +kernel, rfl, by decide +kernel, by decide +kernel⟩
abbrev s_higher_of : Stmt := topS 6
abbrev N_higher_of : List Str := ["many", "reports", "found", "low", "high", "person"]
theorem sc_higher_of : FnScope N_higher_of ["many", "reports"] (defScope s_higher_of) := ⟨rfl, rfl, rfl, by decide +kernel, rfl, by decide +kernel, by decide +kernel⟩
abbrev s_sorted_down : Stmt := topS 7
abbrev N_sorted_down : List Str := ["many", "reports", "above", "found", "left", "ready", "person", "other"]
theorem sc_sorted_down : FnScope N_sorted_down ["many", "reports"] (defScope s_sorted_down) := ⟨rfl, rfl, rfl, by decide +kernel, rfl, by decide +kernel, by decide +kernel⟩
abbrev s_cycle : Stmt := topS 8
abbrev N_cycle : List Str := ["many", "reports", "left", "above", "way", "other"]
theorem sc_cycle : FnScope N_cycle ["many", "reports"] (defScope s_cycle) := ⟨rfl, rfl, rfl, by decide +kernel, rfl, by decide +kernel, by decide +kernel⟩
abbrev s_shows_cycle : Stmt := topS 9
abbrev N_shows_cycle : List Str := ["many", "reports", "thing", "some", "pairs", "person", "pair"]
theorem sc_shows_cycle : FnScope N_shows_cycle ["many", "reports", "thing"] (defScope s_shows_cycle) := ⟨rfl, rfl, rfl, by decide +kernel, rfl, by decide +kernel, by decide +kernel⟩
abbrev s_law_cell_at : Stmt := topS 11
abbrev N_law_cell_at : List Str := ["_law_script", "_law_k"]
theorem sc_law_cell_at : FnScope N_law_cell_at ["_law_script", "_law_k"] (defScope s_law_cell_at) := ⟨rfl, rfl, rfl, by decide +kernel, rfl, by decide +kernel, by decide +kernel⟩
abbrev s_law_box : Stmt := topS 12
abbrev N_law_box : List Str := ["_law_script", "_law_k", "_law_core"]
theorem sc_law_box : FnScope N_law_box ["_law_script", "_law_k"] (defScope s_law_box) := ⟨rfl, rfl, rfl, by decide +kernel, rfl, by decide +kernel, by decide +kernel⟩
abbrev s_law_take : Stmt := topS 13
abbrev N_law_take : List Str := ["_law_box_here", "_law_below", "_law_found", "_law_once", "_law_twice"]
theorem sc_law_take : FnScope N_law_take ["_law_box_here", "_law_below"] (defScope s_law_take) := ⟨rfl, rfl, rfl, by decide +kernel, rfl, by decide +kernel, by decide +kernel⟩
abbrev s_law_of : Stmt := topS 14
abbrev N_law_of : List Str := ["_law_box_here", "_law_some"]
theorem sc_law_of : FnScope N_law_of ["_law_box_here", "_law_some"] (defScope s_law_of) := ⟨rfl, rfl, rfl, by decide +kernel, rfl, by decide +kernel, by decide +kernel⟩
abbrev s_law_same : Stmt := topS 15
abbrev N_law_same : List Str := ["_law_found", "_law_due", "_law_a", "_law_b"]
theorem sc_law_same : FnScope N_law_same ["_law_found", "_law_due"] (defScope s_law_same) := ⟨rfl, rfl, rfl, by decide +kernel, rfl, by decide +kernel, by decide +kernel⟩
abbrev s_law_strewn : Stmt := topS 16
abbrev N_law_strewn : List Str := ["_law_box_here", "_law_some", "_law_left", "_law_found"]
theorem sc_law_strewn : FnScope N_law_strewn ["_law_box_here", "_law_some"] (defScope s_law_strewn) := ⟨rfl, rfl, rfl, by decide +kernel, rfl, by decide +kernel, by decide +kernel⟩
abbrev s_law_lists : Stmt := topS 17
abbrev N_law_lists : List Str := ["_law_part", "_law_piece"]
theorem sc_law_lists : FnScope N_law_lists ["_law_part"] (defScope s_law_lists) := ⟨rfl, rfl, rfl, by decide +kernel, rfl, by decide +kernel, by decide +kernel⟩
abbrev s_law_is_int : Stmt := topS 18
abbrev N_law_is_int : List Str := ["_law_matter"]
theorem sc_law_is_int : FnScope N_law_is_int ["_law_matter"] (defScope s_law_is_int) := ⟨rfl, rfl, rfl, by decide +kernel, rfl, by decide +kernel, by decide +kernel⟩
abbrev s_law_sees : Stmt := topS 19
abbrev N_law_sees : List Str := ["_law_crowd", "_law_i", "_law_j", "_law_soul"]
theorem sc_law_sees : FnScope N_law_sees ["_law_crowd", "_law_i", "_law_j"] (defScope s_law_sees) := ⟨rfl, rfl, rfl, by decide +kernel, rfl, by decide +kernel, by decide +kernel⟩
abbrev s_law_swaps : Stmt := topS 20
abbrev N_law_swaps : List Str := ["_law_crowd", "_law_found", "_law_i", "_law_j"]
theorem sc_law_swaps : FnScope N_law_swaps ["_law_crowd"] (defScope s_law_swaps) := ⟨rfl, rfl, rfl, by decide +kernel, rfl, by decide +kernel, by decide +kernel⟩
abbrev s_law_turned : Stmt := topS 21
abbrev N_law_turned : List Str := ["_law_crowd", "_law_swap", "_law_i", "_law_j"]
theorem sc_law_turned : FnScope N_law_turned ["_law_crowd", "_law_swap"] (defScope s_law_turned) := ⟨rfl, rfl, rfl, by decide +kernel, rfl, by decide +kernel, by decide +kernel⟩
abbrev s_law_seen_in : Stmt := topS 22
abbrev N_law_seen_in : List Str := ["_law_count", "_law_tour", "_law_here", "_law_found", "_law_i", "_law_j", "_law_low"]
theorem sc_law_seen_in : FnScope N_law_seen_in ["_law_count", "_law_tour"] (defScope s_law_seen_in) := ⟨rfl, rfl, rfl, by decide +kernel, rfl, by decide +kernel, by decide +kernel⟩
abbrev s_law_tests : Stmt := topS 23
abbrev N_law_tests : List Str := ["_law_box_here", "_law_count", "_law_most", "_law_odds", "_law_here", "_law_found", "_law_turn", "_law_some", "_law_i", "_law_j"]
theorem sc_law_tests : FnScope N_law_tests ["_law_box_here", "_law_count", "_law_most", "_law_odds"] (defScope s_law_tests) := ⟨rfl, rfl, rfl, by decide +kernel, rfl, by decide +kernel, by decide +kernel⟩
abbrev s_law_is_cycle : Stmt := topS 24
abbrev N_law_is_cycle : List Str := ["_law_seen_pairs", "_law_matter", "_law_its", "_law_mine"]
theorem sc_law_is_cycle : FnScope N_law_is_cycle ["_law_seen_pairs", "_law_matter"] (defScope s_law_is_cycle) := ⟨rfl, rfl, rfl, by decide +kernel, rfl, by decide +kernel, by decide +kernel⟩
abbrev s_law_is_free : Stmt := topS 25
abbrev N_law_is_free : List Str := ["_law_count", "_law_seen_pairs", "_law_left", "_law_ready", "_law_soul", "_law_low", "_law_high"]
theorem sc_law_is_free : FnScope N_law_is_free ["_law_count", "_law_seen_pairs"] (defScope s_law_is_free) := ⟨rfl, rfl, rfl, by decide +kernel, rfl, by decide +kernel, by decide +kernel⟩
abbrev s_law_bent : Stmt := topS 26
abbrev N_law_bent : List Str := ["_law_box_here", "_law_part", "_law_way", "_law_at", "_law_some", "_law_odd"]
theorem sc_law_bent : FnScope N_law_bent ["_law_box_here", "_law_part"] (defScope s_law_bent) := ⟨rfl, rfl, rfl, by decide +kernel, rfl, by decide +kernel, by decide +kernel⟩
abbrev s_law_matters : Stmt := topS 27
abbrev N_law_matters : List Str := ["_law_box_here", "_law_count", "_law_found", "_law_some", "_law_a", "_law_b", "_law_turn"]
theorem sc_law_matters : FnScope N_law_matters ["_law_box_here", "_law_count", "_law_found"] (defScope s_law_matters) := ⟨rfl, rfl, rfl, by decide +kernel, rfl, by decide +kernel, by decide +kernel⟩
abbrev s_law_right : Stmt := topS 28
abbrev N_law_right : List Str := ["_law_box_here", "_law_turn", "_law_count", "_law_tour", "_law_seen_pairs", "_law_found", "_law_matter", "_law_kept", "_law_due", "_law_told"]
theorem sc_law_right : FnScope N_law_right ["_law_box_here"] (defScope s_law_right) := ⟨rfl, rfl, rfl, by decide +kernel, rfl, by decide +kernel, by decide +kernel⟩
abbrev s_law : Stmt := topS 29
abbrev N_law : List Str := ["_law_script", "_law_k"]
theorem sc_law : FnScope N_law ["_law_script"] (defScope s_law) := ⟨rfl, rfl, rfl, by decide +kernel, rfl, by decide +kernel, by decide +kernel⟩
structure Fs (K : PySem.W.Frag) (mg : Str → Option Value) where
  cl : Str → Addr
  f_is_number : Addr
  d_is_number : FuncData
  F_is_number : Fun K "is_number" "is_number" s_is_number f_is_number d_is_number
  m_is_number : mg "is_number" = some (.ref f_is_number)
  b_is_number : Binds K d_is_number ["thing"] []
  f_swapped : Addr
  d_swapped : FuncData
  F_swapped : Fun K "swapped" "swapped" s_swapped f_swapped d_swapped
  m_swapped : mg "swapped" = some (.ref f_swapped)
  b_swapped : Binds K d_swapped ["row", "pair"] []
  f_comparisons : Addr
  d_comparisons : FuncData
  F_comparisons : Fun K "comparisons" "comparisons" s_comparisons f_comparisons d_comparisons
  m_comparisons : mg "comparisons" = some (.ref f_comparisons)
  b_comparisons : Binds K d_comparisons ["many", "reports"] []
  f_higher_of : Addr
  d_higher_of : FuncData
  F_higher_of : Fun K "higher_of" "higher_of" s_higher_of f_higher_of d_higher_of
  m_higher_of : mg "higher_of" = some (.ref f_higher_of)
  b_higher_of : Binds K d_higher_of ["many", "reports"] []
  f_sorted_down : Addr
  d_sorted_down : FuncData
  F_sorted_down : Fun K "sorted_down" "sorted_down" s_sorted_down f_sorted_down d_sorted_down
  m_sorted_down : mg "sorted_down" = some (.ref f_sorted_down)
  b_sorted_down : Binds K d_sorted_down ["many", "reports"] []
  f_cycle : Addr
  d_cycle : FuncData
  F_cycle : Fun K "cycle" "cycle" s_cycle f_cycle d_cycle
  m_cycle : mg "cycle" = some (.ref f_cycle)
  b_cycle : Binds K d_cycle ["many", "reports"] []
  f_shows_cycle : Addr
  d_shows_cycle : FuncData
  F_shows_cycle : Fun K "shows_cycle" "shows_cycle" s_shows_cycle f_shows_cycle d_shows_cycle
  m_shows_cycle : mg "shows_cycle" = some (.ref f_shows_cycle)
  b_shows_cycle : Binds K d_shows_cycle ["many", "reports", "thing"] []
  f_law_cell_at : Addr
  d_law_cell_at : FuncData
  F_law_cell_at : Fun K "_law_cell_at" "_law_cell_at" s_law_cell_at f_law_cell_at d_law_cell_at
  m_law_cell_at : mg "_law_cell_at" = some (.ref f_law_cell_at)
  b_law_cell_at : Binds K d_law_cell_at ["_law_script", "_law_k"] []
  f_law_box : Addr
  d_law_box : FuncData
  F_law_box : Fun K "_law_box" "_law_box" s_law_box f_law_box d_law_box
  m_law_box : mg "_law_box" = some (.ref f_law_box)
  b_law_box : Binds K d_law_box ["_law_script", "_law_k"] []
  f_law_take : Addr
  d_law_take : FuncData
  F_law_take : Fun K "_law_take" "_law_take" s_law_take f_law_take d_law_take
  m_law_take : mg "_law_take" = some (.ref f_law_take)
  b_law_take : Binds K d_law_take ["_law_box_here", "_law_below"] []
  f_law_of : Addr
  d_law_of : FuncData
  F_law_of : Fun K "_law_of" "_law_of" s_law_of f_law_of d_law_of
  m_law_of : mg "_law_of" = some (.ref f_law_of)
  b_law_of : Binds K d_law_of ["_law_box_here", "_law_some"] []
  f_law_same : Addr
  d_law_same : FuncData
  F_law_same : Fun K "_law_same" "_law_same" s_law_same f_law_same d_law_same
  m_law_same : mg "_law_same" = some (.ref f_law_same)
  b_law_same : Binds K d_law_same ["_law_found", "_law_due"] []
  f_law_strewn : Addr
  d_law_strewn : FuncData
  F_law_strewn : Fun K "_law_strewn" "_law_strewn" s_law_strewn f_law_strewn d_law_strewn
  m_law_strewn : mg "_law_strewn" = some (.ref f_law_strewn)
  b_law_strewn : Binds K d_law_strewn ["_law_box_here", "_law_some"] []
  f_law_lists : Addr
  d_law_lists : FuncData
  F_law_lists : Fun K "_law_lists" "_law_lists" s_law_lists f_law_lists d_law_lists
  m_law_lists : mg "_law_lists" = some (.ref f_law_lists)
  b_law_lists : Binds K d_law_lists ["_law_part"] []
  f_law_is_int : Addr
  d_law_is_int : FuncData
  F_law_is_int : Fun K "_law_is_int" "_law_is_int" s_law_is_int f_law_is_int d_law_is_int
  m_law_is_int : mg "_law_is_int" = some (.ref f_law_is_int)
  b_law_is_int : Binds K d_law_is_int ["_law_matter"] []
  f_law_sees : Addr
  d_law_sees : FuncData
  F_law_sees : Fun K "_law_sees" "_law_sees" s_law_sees f_law_sees d_law_sees
  m_law_sees : mg "_law_sees" = some (.ref f_law_sees)
  b_law_sees : Binds K d_law_sees ["_law_crowd", "_law_i", "_law_j"] []
  f_law_swaps : Addr
  d_law_swaps : FuncData
  F_law_swaps : Fun K "_law_swaps" "_law_swaps" s_law_swaps f_law_swaps d_law_swaps
  m_law_swaps : mg "_law_swaps" = some (.ref f_law_swaps)
  b_law_swaps : Binds K d_law_swaps ["_law_crowd"] []
  f_law_turned : Addr
  d_law_turned : FuncData
  F_law_turned : Fun K "_law_turned" "_law_turned" s_law_turned f_law_turned d_law_turned
  m_law_turned : mg "_law_turned" = some (.ref f_law_turned)
  b_law_turned : Binds K d_law_turned ["_law_crowd", "_law_swap"] []
  f_law_seen_in : Addr
  d_law_seen_in : FuncData
  F_law_seen_in : Fun K "_law_seen_in" "_law_seen_in" s_law_seen_in f_law_seen_in d_law_seen_in
  m_law_seen_in : mg "_law_seen_in" = some (.ref f_law_seen_in)
  b_law_seen_in : Binds K d_law_seen_in ["_law_count", "_law_tour"] []
  f_law_tests : Addr
  d_law_tests : FuncData
  F_law_tests : Fun K "_law_tests" "_law_tests" s_law_tests f_law_tests d_law_tests
  m_law_tests : mg "_law_tests" = some (.ref f_law_tests)
  b_law_tests : Binds K d_law_tests ["_law_box_here", "_law_count", "_law_most", "_law_odds"] []
  f_law_is_cycle : Addr
  d_law_is_cycle : FuncData
  F_law_is_cycle : Fun K "_law_is_cycle" "_law_is_cycle" s_law_is_cycle f_law_is_cycle d_law_is_cycle
  m_law_is_cycle : mg "_law_is_cycle" = some (.ref f_law_is_cycle)
  b_law_is_cycle : Binds K d_law_is_cycle ["_law_seen_pairs", "_law_matter"] []
  f_law_is_free : Addr
  d_law_is_free : FuncData
  F_law_is_free : Fun K "_law_is_free" "_law_is_free" s_law_is_free f_law_is_free d_law_is_free
  m_law_is_free : mg "_law_is_free" = some (.ref f_law_is_free)
  b_law_is_free : Binds K d_law_is_free ["_law_count", "_law_seen_pairs"] []
  f_law_bent : Addr
  d_law_bent : FuncData
  F_law_bent : Fun K "_law_bent" "_law_bent" s_law_bent f_law_bent d_law_bent
  m_law_bent : mg "_law_bent" = some (.ref f_law_bent)
  b_law_bent : Binds K d_law_bent ["_law_box_here", "_law_part"] []
  f_law_matters : Addr
  d_law_matters : FuncData
  F_law_matters : Fun K "_law_matters" "_law_matters" s_law_matters f_law_matters d_law_matters
  m_law_matters : mg "_law_matters" = some (.ref f_law_matters)
  b_law_matters : Binds K d_law_matters ["_law_box_here", "_law_count", "_law_found"] []
  f_law_right : Addr
  d_law_right : FuncData
  F_law_right : Fun K "_law_right" "_law_right" s_law_right f_law_right d_law_right
  m_law_right : mg "_law_right" = some (.ref f_law_right)
  b_law_right : Binds K d_law_right ["_law_box_here"] []
  f_law : Addr
  d_law : FuncData
  F_law : Fun K "law" "law" s_law f_law d_law
  m_law : mg "law" = some (.ref f_law)
  b_law : Binds K d_law ["_law_script"] []
  kb_shows_cycle_2_1_0 : KBinds K d_shows_cycle ["many", "reports", "thing"] ["thing", "reports", "many"] (gK [2, 1, 0]) (gK [2, 1, 0])
  kb_cycle_1_0 : KBinds K d_cycle ["many", "reports"] ["reports", "many"] (gK [1, 0]) (gK [1, 0])
  m_len : mg "len" = none
  m_abs : mg "abs" = none
  m_int : mg "int" = none
  m_min : mg "min" = none
  m_list : mg "list" = none
  m_tuple : mg "tuple" = none
  m_all : mg "all" = none
  m_any : mg "any" = none
  m_sorted : mg "sorted" = none
  m_zip : mg "zip" = none
  m_range : mg "range" = none
  m_isinstance : mg "isinstance" = none
  m_repr : mg "repr" = none
  m_set : mg "set" = none
  m_str : mg "str" = none
  m_bool : mg "bool" = none
section
variable {P : Program} {w : World} {K : PySem.W.Frag} {mg : Str → Option Value} {base : Heap}
theorem ok_is_number (Y : Fs K mg) : FnG P w K mg base (L2.CX P w) 1 Y.f_is_number Y.d_is_number ["thing"] (spF K Y.cl 1 fn_is_number) := by
  refine fnFx (k := 0) Y.F_is_number sc_is_number (fun cdv A outer s H E ρ dx hcl hr tk => ?_)
  obtain ⟨rB, rO, rP, rC⟩ := ρ
  obtain rfl : rC = Y.cl := hcl
  exact ⟨_, (qss_one (qs_ret (q_and (q_isi (T := "int") (by first | exact .inl rfl | exact .inr (.inl rfl) | exact .inr (.inr (.inl rfl)) | exact .inr (.inr (.inr (.inl rfl))) | exact .inr (.inr (.inr (.inr (.inl rfl)))) | exact .inr (.inr (.inr (.inr (.inr rfl))))) (by rfl) Y.m_isinstance (by rfl) Y.m_int (by decide +kernel) (q_var 0)) (q_one (q_not (q_isi (T := "bool") (by first | exact .inl rfl | exact .inr (.inl rfl) | exact .inr (.inr (.inl rfl)) | exact .inr (.inr (.inr (.inl rfl))) | exact .inr (.inr (.inr (.inr (.inl rfl)))) | exact .inr (.inr (.inr (.inr (.inr rfl))))) (by rfl) Y.m_isinstance (by rfl) Y.m_bool (by decide +kernel) (q_var 0))))))), rfl⟩
theorem ok_swapped (Y : Fs K mg) : FnG P w K mg base (L2.CX P w) 1 Y.f_swapped Y.d_swapped ["row", "pair"] (spF K Y.cl 2 fn_swapped) := by
  refine fnFx (k := 0) Y.F_swapped sc_swapped (fun cdv A outer s H E ρ dx hcl hr tk => ?_)
  obtain ⟨rB, rO, rP, rC⟩ := ρ
  obtain rfl : rC = Y.cl := hcl
  exact ⟨_, (qss_cons (qs_asg (q_var 1) (qg_tupA (n := 2) rfl (qgs_cons (qg_name (ws := [2, 3]) 2 sc_swapped.nd (by decide) rfl (.inl rfl)) (qgs_cons (qg_name (ws := [2, 3]) 3 sc_swapped.nd (by decide) rfl (.inl rfl)) qgs_nil))))
      (qss_one (qs_ret (q_add (q_add (q_add (q_add (q_tuple rfl (by rfl) Y.m_tuple (qa_cons (q_sl (q_var 0) qo_none (qo_some (q_var 2))) qa_nil)) (q_tup (qa_cons (q_ix hr.un1 (q_var 0) (q_var 3)) qa_nil))) (q_tuple rfl (by rfl) Y.m_tuple (qa_cons (q_sl (q_var 0) (qo_some (q_add (q_var 2) q_int)) (qo_some (q_var 3))) qa_nil))) (q_tup (qa_cons (q_ix hr.un1 (q_var 0) (q_var 2)) qa_nil))) (q_tuple rfl (by rfl) Y.m_tuple (qa_cons (q_sl (q_var 0) (qo_some (q_add (q_var 3) q_int)) qo_none) qa_nil)))))), rfl⟩
theorem ok_comparisons (Y : Fs K mg) : FnG P w K mg base (L2.CX P w) 2 Y.f_comparisons Y.d_comparisons ["many", "reports"] (spF K Y.cl 2 fn_comparisons) := by
  refine fnFx (k := 1) Y.F_comparisons sc_comparisons (fun cdv A outer s H E ρ dx hcl hr tk => ?_)
  obtain ⟨rB, rO, rP, rC⟩ := ρ
  obtain rfl : rC = Y.cl := hcl
  have G_swapped := ok_swapped (P := P) (w := w) (base := base) Y
  exact ⟨_, (qss_cons (qs_par (i := 2) (j := 3) rfl sc_comparisons.nd rfl rfl (by decide) rfl rfl (qa_cons (q_trg1 rfl (by rfl) Y.m_tuple (by rfl) Y.m_range (q_var 0)) (qa_cons q_dict0T qa_nil)) (by rfl))
      (qss_cons (qs_for PassesOwn.leaving rfl (qi_seq (q_var 1)) (qg_tupA (n := 2) rfl (qgs_cons (qg_name (ws := [4, 5]) 4 sc_comparisons.nd (by decide) rfl (.inl rfl)) (qgs_cons (qg_name (ws := [4, 5]) 5 sc_comparisons.nd (by decide) rfl (.inl rfl)) qgs_nil))) (qss_cons (qs_for PassesOwn.leaving rfl (qi_seq (q_sl (q_var 2) (qo_some (q_add (q_var 4) q_int)) (qo_some (q_var 5)))) (qg_name (ws := [6]) 6 sc_comparisons.nd (by decide) rfl (.inl rfl)) (qss_one (qs_expr (q_upd2 hr.un1 (q_var 3) (q_tup (qa_cons (q_var 6) (qa_cons (q_ix hr.un1 (q_var 2) (q_var 4)) qa_nil))) q_bool (q_tup (qa_cons (q_var 6) (qa_cons (q_ix hr.un1 (q_var 2) (q_var 5)) qa_nil))) q_bool))))
      (qss_one (qs_set (i := 2) sc_comparisons.nd rfl (.inl rfl) (q_call false tk G_swapped (hr.mono (by decide)) (by rfl) Y.m_swapped Y.F_swapped.kp Y.b_swapped (qa_cons (q_var 2) (qa_cons (q_tup (qa_cons (q_var 4) (qa_cons (q_var 5) qa_nil))) qa_nil)) (nArgs_cons (nArgs_cons nArgs_nil)))))))
      (qss_one (qs_ret (q_sortTO rfl (by rfl) Y.m_sorted (qa_cons (q_var 3) qa_nil)))))), rfl⟩
theorem ok_higher_of (Y : Fs K mg) : FnG P w K mg base (L2.CX P w) 3 Y.f_higher_of Y.d_higher_of ["many", "reports"] (spF K Y.cl 2 fn_higher_of) := by
  refine fnFx (k := 2) Y.F_higher_of sc_higher_of (fun cdv A outer s H E ρ dx hcl hr tk => ?_)
  obtain ⟨rB, rO, rP, rC⟩ := ρ
  obtain rfl : rC = Y.cl := hcl
  have G_comparisons := ok_comparisons (P := P) (w := w) (base := base) Y
  exact ⟨_, (qss_cons (qs_setLcL (j := 2) rfl sc_higher_of.nd rfl rfl (sw_true rfl rfl rfl (by decide +kernel)) (qi_range1 (by rfl) Y.m_range (qa_cons (q_var 0) qa_nil)) (blkOk_by (own := [("person", 5)]) (N := N_higher_of) (sc := defScope s_higher_of) (by decide +kernel)) (fun _ _ _ _ _ => (qg_name (ws := [5]) 5 sc_higher_of.nd (by decide) rfl (.inl rfl))) (fun _ _ _ _ _ => qts_nil) (fun _ _ _ _ _ => (q_lstO qa_nil)))
      (qss_cons (qs_for PassesOwn.leaving rfl (qi_seq (q_call false tk G_comparisons (hr.mono (by decide)) (by rfl) Y.m_comparisons Y.F_comparisons.kp Y.b_comparisons (qa_cons (q_var 0) (qa_cons (q_var 1) qa_nil)) (nArgs_cons (nArgs_cons nArgs_nil)))) (qg_tupA (n := 2) rfl (qgs_cons (qg_name (ws := [3, 4]) 3 sc_higher_of.nd (by decide) rfl (.inl rfl)) (qgs_cons (qg_name (ws := [3, 4]) 4 sc_higher_of.nd (by decide) rfl (.inl rfl)) qgs_nil))) (qss_one (qs_expr (q_append (q_ixL (q_var 2) (q_var 3)) (qa_cons (q_var 4) qa_nil)))))
      (qss_one (qs_ret (q_frzL (q_var 2)))))), rfl⟩
theorem ok_sorted_down (Y : Fs K mg) : FnG P w K mg base (L2.CX P w) 4 Y.f_sorted_down Y.d_sorted_down ["many", "reports"] (spF K Y.cl 2 fn_sorted_down) := by
  refine fnFx (k := 3) Y.F_sorted_down sc_sorted_down (fun cdv A outer s H E ρ dx hcl hr tk => ?_)
  obtain ⟨rB, rO, rP, rC⟩ := ρ
  obtain rfl : rC = Y.cl := hcl
  have G_higher_of := ok_higher_of (P := P) (w := w) (base := base) Y
  exact ⟨_, (qss_cons (qs_parN (is := [2, 3, 4]) rfl (pgs_cons (pg_name sc_sorted_down.nd rfl (.inr rfl)) (pgs_cons (pg_name sc_sorted_down.nd rfl (.inl rfl)) (pgs_cons (pg_name sc_sorted_down.nd rfl (.inr rfl)) pgs_nil))) (by decide) (qa_cons (q_call false tk G_higher_of (hr.mono (by decide)) (by rfl) Y.m_higher_of Y.F_higher_of.kp Y.b_higher_of (qa_cons (q_var 0) (qa_cons (q_var 1) qa_nil)) (nArgs_cons (nArgs_cons nArgs_nil))) (qa_cons (q_lstO qa_nil) (qa_cons (q_lrgO1 rfl (by rfl) Y.m_list (by rfl) Y.m_range (q_var 0)) qa_nil))))
      (qss_one (qs_while PassesOwn.leaving (qt_val q_bool) (qss_cons (qs_setLcN (j := 5) rfl sc_sorted_down.nd rfl rfl (sw_true rfl rfl rfl (by decide +kernel)) (qi_seq (q_var 4)) (blkOk_by (own := [("person", 6)]) (N := N_sorted_down) (sc := defScope s_sorted_down) (by decide +kernel)) (fun _ _ _ _ _ => (qg_name (ws := [6]) 6 sc_sorted_down.nd (by decide) rfl (.inl rfl))) (fun _ _ _ _ _ => (qts_one (qt_not (qt_val (q_any rfl (by rfl) Y.m_any (qa_cons (q_lc rfl sc_sorted_down.nd (qi_seq (q_ix hr.un1 (q_var 2) (q_var 6))) (blkOk_by (own := [("other", 7)]) (N := N_sorted_down) (sc := { kind := .function, names := [(".0", .local), ("person", .local), ("any", .globalImplicit), ("above", .cell), ("left", .cell)], isGenerator := false, isCoroutine := false }) (by decide +kernel)) (fun _ _ _ _ _ => (qg_name (ws := [7]) 7 sc_sorted_down.nd (by decide) rfl (.inl rfl))) (fun _ _ _ _ _ => qts_nil) (fun _ _ _ _ _ => (q_in hr.un65 (q_var 7) (q_var 4)))) qa_nil)))))) (fun _ _ _ _ _ => (q_var 6)))
      (qss_cons (qs_if (qt_eq hr.units (q_len rfl (by rfl) Y.m_len (qa_cons (q_var 5) qa_nil)) q_int) (qss_one (qs_ret (q_tupF (qa_cons (q_var 3) (qa_cons (q_var 4) qa_nil))))) qss_nil)
      (qss_cons (qs_expr (q_append (q_var 3) (qa_cons (q_ix hr.un1 (q_var 5) (q_neg q_int)) qa_nil)))
      (qss_one (qs_expr (q_remove (q_var 4) (qa_cons (q_ix hr.un1 (q_var 5) (q_neg q_int)) qa_nil)))))))))), rfl⟩
theorem ok_cycle (Y : Fs K mg) : FnG P w K mg base (L2.CX P w) 5 Y.f_cycle Y.d_cycle ["many", "reports"] (spF K Y.cl 2 fn_cycle) := by
  refine fnFx (k := 4) Y.F_cycle sc_cycle (fun cdv A outer s H E ρ dx hcl hr tk => ?_)
  obtain ⟨rB, rO, rP, rC⟩ := ρ
  obtain rfl : rC = Y.cl := hcl
  have G_sorted_down := ok_sorted_down (P := P) (w := w) (base := base) Y
  have G_higher_of := ok_higher_of (P := P) (w := w) (base := base) Y
  exact ⟨_, (qss_cons (qs_set (i := 2) sc_cycle.nd rfl (.inr rfl) (q_ix hr.un1 (q_call false tk G_sorted_down (hr.mono (by decide)) (by rfl) Y.m_sorted_down Y.F_sorted_down.kp Y.b_sorted_down (qa_cons (q_var 0) (qa_cons (q_var 1) qa_nil)) (nArgs_cons (nArgs_cons nArgs_nil))) q_int))
      (qss_cons (qs_if (qt_eq hr.units (q_len rfl (by rfl) Y.m_len (qa_cons (q_var 2) qa_nil)) q_int) (qss_one (qs_ret q_none)) qss_nil)
      (qss_cons (qs_par (i := 3) (j := 4) rfl sc_cycle.nd rfl rfl (by decide) rfl rfl (qa_cons (q_call false tk G_higher_of (hr.mono (by decide)) (by rfl) Y.m_higher_of Y.F_higher_of.kp Y.b_higher_of (qa_cons (q_var 0) (qa_cons (q_var 1) qa_nil)) (nArgs_cons (nArgs_cons nArgs_nil))) (qa_cons (q_lstO (qa_cons (q_ix hr.un1 (q_var 2) q_int) qa_nil)) qa_nil)) (by rfl))
      (qss_cons (qs_while PassesOwn.leaving (qt_notIn hr.un65 (q_ix hr.un1 (q_var 4) (q_neg q_int)) (q_sl (q_var 4) qo_none (qo_some (q_neg q_int)))) (qss_one (qs_expr (q_append (q_var 4) (qa_cons (q_ix hr.un1 (q_lc rfl sc_cycle.nd (qi_seq (q_ix hr.un1 (q_var 3) (q_ix hr.un1 (q_var 4) (q_neg q_int)))) (blkOk_by (own := [("other", 5)]) (N := N_cycle) (sc := defScope s_cycle) (by decide +kernel)) (fun _ _ _ _ _ => (qg_name (ws := [5]) 5 sc_cycle.nd (by decide) rfl (.inl rfl))) (fun _ _ _ _ _ => (qts_one (qt_in hr.un65 (q_var 5) (q_var 2)))) (fun _ _ _ _ _ => (q_var 5))) q_int) qa_nil)))))
      (qss_one (qs_ret (q_slO (q_var 4) (qo_some (q_add (q_index hr.un65 (q_var 4) (qa_cons (q_ix hr.un1 (q_var 4) (q_neg q_int)) qa_nil)) q_int)) qo_none))))))), rfl⟩
theorem ok_shows_cycle (Y : Fs K mg) : FnG P w K mg base (L2.CX P w) 3 Y.f_shows_cycle Y.d_shows_cycle ["many", "reports", "thing"] (spF K Y.cl 3 fn_shows_cycle) := by
  refine fnFx (k := 2) Y.F_shows_cycle sc_shows_cycle (fun cdv A outer s H E ρ dx hcl hr tk => ?_)
  obtain ⟨rB, rO, rP, rC⟩ := ρ
  obtain rfl : rC = Y.cl := hcl
  have G_is_number := ok_is_number (P := P) (w := w) (base := base) Y
  have G_comparisons := ok_comparisons (P := P) (w := w) (base := base) Y
  exact ⟨_, (qss_cons (qs_if (qt_w (qw_or (qt_not (qt_val (q_isi (T := "list") (by first | exact .inl rfl | exact .inr (.inl rfl) | exact .inr (.inr (.inl rfl)) | exact .inr (.inr (.inr (.inl rfl))) | exact .inr (.inr (.inr (.inr (.inl rfl)))) | exact .inr (.inr (.inr (.inr (.inr rfl))))) (by rfl) Y.m_isinstance (by rfl) Y.m_list (by decide +kernel) (q_var 2)))) (qw_or (qt_lt (q_len rfl (by rfl) Y.m_len (qa_cons (q_var 2) qa_nil)) q_int) (qw_or1 (qt_not (qt_val (q_all rfl (by rfl) Y.m_all (qa_cons (q_lc rfl sc_shows_cycle.nd (qi_seq (q_var 2)) (blkOk_by (own := [("person", 5)]) (N := N_shows_cycle) (sc := defScope s_shows_cycle) (by decide +kernel)) (fun _ _ _ _ _ => (qg_name (ws := [5]) 5 sc_shows_cycle.nd (by decide) rfl (.inl rfl))) (fun _ _ _ _ _ => qts_nil) (fun _ _ _ _ _ => (q_call false takes_no G_is_number (hr.mono (by decide)) (by rfl) Y.m_is_number Y.F_is_number.kp Y.b_is_number (qa_cons (q_var 5) qa_nil) (nArgs_cons nArgs_nil)))) qa_nil)))))))) (qss_one (qs_ret q_bool)) qss_nil)
      (qss_cons (qs_set (i := 3) sc_shows_cycle.nd rfl (.inr rfl) (q_call false tk G_comparisons (hr.mono (by decide)) (by rfl) Y.m_comparisons Y.F_comparisons.kp Y.b_comparisons (qa_cons (q_var 0) (qa_cons (q_var 1) qa_nil)) (nArgs_cons (nArgs_cons nArgs_nil))))
      (qss_cons (qs_set (i := 4) sc_shows_cycle.nd rfl (.inl rfl) (q_lzS2 rfl (by rfl) Y.m_list (by rfl) Y.m_zip (qa_cons (q_var 2) (qa_cons (q_add (q_sl (q_var 2) (qo_some q_int) qo_none) (q_sl (q_var 2) qo_none (qo_some q_int))) qa_nil))))
      (qss_one (qs_ret (q_and (q_eq hr.units (q_lenSet rfl (by rfl) Y.m_len (by rfl) Y.m_set (q_var 2)) (q_len rfl (by rfl) Y.m_len (qa_cons (q_var 2) qa_nil))) (q_one (q_all rfl (by rfl) Y.m_all (qa_cons (q_lc rfl sc_shows_cycle.nd (qi_seq (q_var 4)) (blkOk_by (own := [("pair", 6)]) (N := N_shows_cycle) (sc := defScope s_shows_cycle) (by decide +kernel)) (fun _ _ _ _ _ => (qg_name (ws := [6]) 6 sc_shows_cycle.nd (by decide) rfl (.inl rfl))) (fun _ _ _ _ _ => qts_nil) (fun _ _ _ _ _ => (q_in hr.un65 (q_var 6) (q_var 3)))) qa_nil))))))))), rfl⟩
theorem ok_law_cell_at (Y : Fs K mg) : FnG P w K mg base (L2.CX P w) 1 Y.f_law_cell_at Y.d_law_cell_at ["_law_script", "_law_k"] (spF K Y.cl 2 fn_law_cell_at) := by
  refine fnFx (k := 0) Y.F_law_cell_at sc_law_cell_at (fun cdv A outer s H E ρ dx hcl hr tk => ?_)
  obtain ⟨rB, rO, rP, rC⟩ := ρ
  obtain rfl : rC = Y.cl := hcl
  exact ⟨_, (qss_cons (qs_if (qt_lt (q_var 1) (q_len rfl (by rfl) Y.m_len (qa_cons (q_var 0) qa_nil))) (qss_one (qs_ret (q_ix hr.un1 (q_var 0) (q_var 1)))) qss_nil)
      (qss_one (qs_ret q_int))), rfl⟩
theorem ok_law_box (Y : Fs K mg) : FnG P w K mg base (L2.CX P w) 2 Y.f_law_box Y.d_law_box ["_law_script", "_law_k"] (spF K Y.cl 2 fn_law_box) := by
  refine fnFx (k := 1) Y.F_law_box sc_law_box (fun cdv A outer s H E ρ dx hcl hr tk => ?_)
  obtain ⟨rB, rO, rP, rC⟩ := ρ
  obtain rfl : rC = Y.cl := hcl
  have G_law_cell_at := ok_law_cell_at (P := P) (w := w) (base := base) Y
  exact ⟨_, (qss_cons (qs_set (i := 2) sc_law_box.nd rfl (.inl rfl) (q_call false tk G_law_cell_at (hr.mono (by decide)) (by rfl) Y.m_law_cell_at Y.F_law_cell_at.kp Y.b_law_cell_at (qa_cons (q_var 0) (qa_cons (q_var 1) qa_nil)) (nArgs_cons (nArgs_cons nArgs_nil))))
      (qss_one (qs_ret (q_lstO (qa_cons (q_mul (q_abs rfl (by rfl) Y.m_abs (qa_cons (q_var 2) qa_nil)) (q_intB rfl (by rfl) Y.m_int (qa_cons (q_ge (q_abs rfl (by rfl) Y.m_abs (qa_cons (q_var 2) qa_nil)) (q_pow q_int q_int)) qa_nil))) (qa_cons (q_add (q_add (q_mod (q_var 2) q_int) (q_mul q_int (q_var 1))) q_int) (qa_cons q_int qa_nil))))))), rfl⟩
theorem ok_law_take (Y : Fs K mg) : ∀ n : Nat, FnG P w K mg base (L2.CX P w) (n + 0) Y.f_law_take Y.d_law_take ["_law_box_here", "_law_below"] (spF K Y.cl 2 (fn_law_take n))
  | 0 => ⟨fun vs H Q E h => h.elim fun B h => h.elim fun O h => h.elim fun ps h => h.elim fun bx h => h.elim fun rs h => h.1, fun A fr s H as us vs Q E c e b v h => (h.elim fun B h => h.elim fun O h => h.elim fun ps h => h.elim fun bx h => h.elim fun rs h => (h.2.2.2.1 rfl).elim)⟩
  | n + 1 => by
    have R := ok_law_take Y n
    have z : n + 1 + 0 = (n + 0) + 1 := by omega
    rw [z]
    refine fnFx (k := n + 0) Y.F_law_take sc_law_take (fun cdv A outer s H E ρ dx hcl hr tk => ?_)
    obtain ⟨rB, rO, rP, rC⟩ := ρ
    obtain rfl : rC = Y.cl := hcl
    have G_law_take := R
    exact ⟨_, (qss_cons (qs_if (qt_gt (q_ix hr.un1 (q_var 0) q_int) q_int) (qss_cons (qs_set (i := 2) sc_law_take.nd rfl (.inl rfl) (q_mod (q_ix hr.un1 (q_var 0) q_int) (q_var 1)))
      (qss_cons (qs_asg (q_div (q_ix hr.un1 (q_var 0) q_int) (q_var 1)) (qg_subL (ws := []) (q_var 0) q_int))
      (qss_one (qs_ret (q_var 2))))) qss_nil)
      (qss_cons (qs_if (qt_gt (q_var 1) (q_pow q_int q_int)) (qss_one (qs_ret (q_mod (q_add (q_call false tk G_law_take (hr.mono (by omega)) (by rfl) Y.m_law_take Y.F_law_take.kp Y.b_law_take (qa_cons (q_var 0) (qa_cons (q_pow q_int q_int) qa_nil)) (nArgs_cons (nArgs_cons nArgs_nil))) (q_mul (q_pow q_int q_int) (q_call false tk G_law_take (hr.mono (by omega)) (by rfl) Y.m_law_take Y.F_law_take.kp Y.b_law_take (qa_cons (q_var 0) (qa_cons (q_add (q_div (q_var 1) (q_pow q_int q_int)) q_int) qa_nil)) (nArgs_cons (nArgs_cons nArgs_nil))))) (q_var 1)))) qss_nil)
      (qss_cons (qs_asg (q_add (q_ix hr.un1 (q_var 0) q_int) q_int) (qg_subL (ws := []) (q_var 0) q_int))
      (qss_cons (qs_set (i := 3) sc_law_take.nd rfl (.inl rfl) (q_mod (q_mul (q_add (q_ix hr.un1 (q_var 0) q_int) (q_mul q_int (q_ix hr.un1 (q_var 0) q_int))) (q_add q_int (q_ix hr.un1 (q_var 0) q_int))) q_int))
      (qss_cons (qs_set (i := 4) sc_law_take.nd rfl (.inl rfl) (q_mod (q_mul (q_add (q_add (q_var 3) (q_ix hr.un1 (q_var 0) q_int)) (q_div (q_ix hr.un1 (q_var 0) q_int) q_int)) (q_add (q_mod (q_var 3) q_int) q_int)) q_int))
      (qss_one (qs_ret (q_mod (q_div (q_mod (q_add (q_mul (q_var 4) q_int) (q_var 3)) q_int) q_int) (q_var 1))))))))), rfl⟩
theorem ok_law_of (Y : Fs K mg) : FnG P w K mg base (L2.CX P w) 5 Y.f_law_of Y.d_law_of ["_law_box_here", "_law_some"] (spF K Y.cl 2 fn_law_of) := by
  refine fnFx (k := 4) Y.F_law_of sc_law_of (fun cdv A outer s H E ρ dx hcl hr tk => ?_)
  obtain ⟨rB, rO, rP, rC⟩ := ρ
  obtain rfl : rC = Y.cl := hcl
  have G_law_take := ok_law_take (P := P) (w := w) (base := base) Y 4
  exact ⟨_, (qss_one (qs_ret (q_ix hr.un1 (q_var 1) (q_call false tk G_law_take (hr.mono (by decide)) (by rfl) Y.m_law_take Y.F_law_take.kp Y.b_law_take (qa_cons (q_var 0) (qa_cons (q_len rfl (by rfl) Y.m_len (qa_cons (q_var 1) qa_nil)) qa_nil)) (nArgs_cons (nArgs_cons nArgs_nil)))))), rfl⟩
theorem ok_law_same (Y : Fs K mg) : ∀ n : Nat, FnG P w K mg base (L2.CX P w) (n + 0) Y.f_law_same Y.d_law_same ["_law_found", "_law_due"] (spF K Y.cl 2 (fn_law_same n))
  | 0 => ⟨fun vs H Q E h => h.elim fun B h => h.elim fun O h => h.elim fun ps h => h.elim fun bx h => h.elim fun rs h => h.1, fun A fr s H as us vs Q E c e b v h => (h.elim fun B h => h.elim fun O h => h.elim fun ps h => h.elim fun bx h => h.elim fun rs h => (h.2.2.2.1 rfl).elim)⟩
  | n + 1 => by
    have R := ok_law_same Y n
    have z : n + 1 + 0 = (n + 0) + 1 := by omega
    rw [z]
    refine fnFx (k := n + 0) Y.F_law_same sc_law_same (fun cdv A outer s H E ρ dx hcl hr tk => ?_)
    obtain ⟨rB, rO, rP, rC⟩ := ρ
    obtain rfl : rC = Y.cl := hcl
    have G_law_same := R
    exact ⟨_, (qss_cons (qs_if (qt_val (q_isi2 (T := "list") (U := "tuple") (by first | exact .inl rfl | exact .inr (.inl rfl) | exact .inr (.inr (.inl rfl)) | exact .inr (.inr (.inr (.inl rfl))) | exact .inr (.inr (.inr (.inr (.inl rfl)))) | exact .inr (.inr (.inr (.inr (.inr rfl))))) (by first | exact .inl rfl | exact .inr (.inl rfl) | exact .inr (.inr (.inl rfl)) | exact .inr (.inr (.inr (.inl rfl))) | exact .inr (.inr (.inr (.inr (.inl rfl)))) | exact .inr (.inr (.inr (.inr (.inr rfl))))) (by rfl) Y.m_isinstance (by rfl) Y.m_list (by decide +kernel) (by rfl) Y.m_tuple (by decide +kernel) (q_var 1))) (qss_cons (qs_if (qt_w (qw_or (qt_ne hr.units (q_isi (T := "list") (by first | exact .inl rfl | exact .inr (.inl rfl) | exact .inr (.inr (.inl rfl)) | exact .inr (.inr (.inr (.inl rfl))) | exact .inr (.inr (.inr (.inr (.inl rfl)))) | exact .inr (.inr (.inr (.inr (.inr rfl))))) (by rfl) Y.m_isinstance (by rfl) Y.m_list (by decide +kernel) (q_var 0)) (q_isi (T := "list") (by first | exact .inl rfl | exact .inr (.inl rfl) | exact .inr (.inr (.inl rfl)) | exact .inr (.inr (.inr (.inl rfl))) | exact .inr (.inr (.inr (.inr (.inl rfl)))) | exact .inr (.inr (.inr (.inr (.inr rfl))))) (by rfl) Y.m_isinstance (by rfl) Y.m_list (by decide +kernel) (q_var 1))) (qw_or1 (qt_ne hr.units (q_isi (T := "tuple") (by first | exact .inl rfl | exact .inr (.inl rfl) | exact .inr (.inr (.inl rfl)) | exact .inr (.inr (.inr (.inl rfl))) | exact .inr (.inr (.inr (.inr (.inl rfl)))) | exact .inr (.inr (.inr (.inr (.inr rfl))))) (by rfl) Y.m_isinstance (by rfl) Y.m_tuple (by decide +kernel) (q_var 0)) (q_isi (T := "tuple") (by first | exact .inl rfl | exact .inr (.inl rfl) | exact .inr (.inr (.inl rfl)) | exact .inr (.inr (.inr (.inl rfl))) | exact .inr (.inr (.inr (.inr (.inl rfl)))) | exact .inr (.inr (.inr (.inr (.inr rfl))))) (by rfl) Y.m_isinstance (by rfl) Y.m_tuple (by decide +kernel) (q_var 1)))))) (qss_one (qs_ret q_bool)) qss_nil)
      (qss_one (qs_ret (q_and (q_eq hr.units (q_len rfl (by rfl) Y.m_len (qa_cons (q_var 0) qa_nil)) (q_len rfl (by rfl) Y.m_len (qa_cons (q_var 1) qa_nil))) (q_one (q_all rfl (by rfl) Y.m_all (qa_cons (q_lc rfl sc_law_same.nd (qi_zipP2 (by rfl) Y.m_zip (qa_cons (q_var 0) (qa_cons (q_var 1) qa_nil))) (blkOk_by (own := [("_law_a", 2), ("_law_b", 3)]) (N := N_law_same) (sc := defScope s_law_same) (by decide +kernel)) (fun _ _ _ _ _ => (qg_tupA (n := 2) rfl (qgs_cons (qg_name (ws := [2, 3]) 2 sc_law_same.nd (by decide) rfl (.inl rfl)) (qgs_cons (qg_name (ws := [2, 3]) 3 sc_law_same.nd (by decide) rfl (.inl rfl)) qgs_nil)))) (fun _ _ _ _ _ => qts_nil) (fun _ _ _ _ _ => (q_call false takes_no G_law_same (hr.mono (by omega)) (by rfl) Y.m_law_same Y.F_law_same.kp Y.b_law_same (qa_cons (q_var 2) (qa_cons (q_var 3) qa_nil)) (nArgs_cons (nArgs_cons nArgs_nil))))) qa_nil))))))) qss_nil)
      (qss_cons (qs_if (qt_w (qw_or (qt_isN (q_var 1) q_none) (qw_or1 (qt_val (q_isi2 (T := "bool") (U := "str") (by first | exact .inl rfl | exact .inr (.inl rfl) | exact .inr (.inr (.inl rfl)) | exact .inr (.inr (.inr (.inl rfl))) | exact .inr (.inr (.inr (.inr (.inl rfl)))) | exact .inr (.inr (.inr (.inr (.inr rfl))))) (by first | exact .inl rfl | exact .inr (.inl rfl) | exact .inr (.inr (.inl rfl)) | exact .inr (.inr (.inr (.inl rfl))) | exact .inr (.inr (.inr (.inr (.inl rfl)))) | exact .inr (.inr (.inr (.inr (.inr rfl))))) (by rfl) Y.m_isinstance (by rfl) Y.m_bool (by decide +kernel) (by rfl) Y.m_str (by decide +kernel) (q_var 1)))))) (qss_one (qs_ret (q_and (q_eq hr.units (q_var 0) (q_var 1)) (q_and (q_eq hr.units (q_isi (T := "bool") (by first | exact .inl rfl | exact .inr (.inl rfl) | exact .inr (.inr (.inl rfl)) | exact .inr (.inr (.inr (.inl rfl))) | exact .inr (.inr (.inr (.inr (.inl rfl)))) | exact .inr (.inr (.inr (.inr (.inr rfl))))) (by rfl) Y.m_isinstance (by rfl) Y.m_bool (by decide +kernel) (q_var 0)) (q_isi (T := "bool") (by first | exact .inl rfl | exact .inr (.inl rfl) | exact .inr (.inr (.inl rfl)) | exact .inr (.inr (.inr (.inl rfl))) | exact .inr (.inr (.inr (.inr (.inl rfl)))) | exact .inr (.inr (.inr (.inr (.inr rfl))))) (by rfl) Y.m_isinstance (by rfl) Y.m_bool (by decide +kernel) (q_var 1))) (q_one (q_eq hr.units (q_isN (q_var 0) q_none) (q_isN (q_var 1) q_none))))))) qss_nil)
      (qss_one (qs_ret (q_and (q_isi (T := "int") (by first | exact .inl rfl | exact .inr (.inl rfl) | exact .inr (.inr (.inl rfl)) | exact .inr (.inr (.inr (.inl rfl))) | exact .inr (.inr (.inr (.inr (.inl rfl)))) | exact .inr (.inr (.inr (.inr (.inr rfl))))) (by rfl) Y.m_isinstance (by rfl) Y.m_int (by decide +kernel) (q_var 0)) (q_and (q_not (q_isi (T := "bool") (by first | exact .inl rfl | exact .inr (.inl rfl) | exact .inr (.inr (.inl rfl)) | exact .inr (.inr (.inr (.inl rfl))) | exact .inr (.inr (.inr (.inr (.inl rfl)))) | exact .inr (.inr (.inr (.inr (.inr rfl))))) (by rfl) Y.m_isinstance (by rfl) Y.m_bool (by decide +kernel) (q_var 0))) (q_one (q_eq hr.units (q_var 0) (q_var 1))))))))), rfl⟩
theorem ok_law_strewn (Y : Fs K mg) : FnG P w K mg base (L2.CX P w) 5 Y.f_law_strewn Y.d_law_strewn ["_law_box_here", "_law_some"] (spF K Y.cl 2 fn_law_strewn) := by
  refine fnFx (k := 4) Y.F_law_strewn sc_law_strewn (fun cdv A outer s H E ρ dx hcl hr tk => ?_)
  obtain ⟨rB, rO, rP, rC⟩ := ρ
  obtain rfl : rC = Y.cl := hcl
  have G_law_take := ok_law_take (P := P) (w := w) (base := base) Y 4
  exact ⟨_, (qss_cons (qs_par (i := 2) (j := 3) rfl sc_law_strewn.nd rfl rfl (by decide) rfl rfl (qa_cons (q_listO rfl (by rfl) Y.m_list (qa_cons (q_var 1) qa_nil)) (qa_cons (q_lstO qa_nil) qa_nil)) (by rfl))
      (qss_cons (qs_while PassesOwn.leaving (qt_ne hr.units (q_var 2) (q_lst qa_nil)) (qss_one (qs_expr (q_append (q_var 3) (qa_cons (q_pop (q_var 2) (qa_cons (q_call false tk G_law_take (hr.mono (by decide)) (by rfl) Y.m_law_take Y.F_law_take.kp Y.b_law_take (qa_cons (q_var 0) (qa_cons (q_len rfl (by rfl) Y.m_len (qa_cons (q_var 2) qa_nil)) qa_nil)) (nArgs_cons (nArgs_cons nArgs_nil))) qa_nil)) qa_nil)))))
      (qss_one (qs_ret (q_var 3))))), rfl⟩
theorem ok_law_lists (Y : Fs K mg) : ∀ n : Nat, FnG P w K mg base (L2.CX P w) (n + 0) Y.f_law_lists Y.d_law_lists ["_law_part"] (spF K Y.cl 1 (fn_law_lists n))
  | 0 => ⟨fun vs H Q E h => h.elim fun B h => h.elim fun O h => h.elim fun ps h => h.elim fun bx h => h.elim fun rs h => h.1, fun A fr s H as us vs Q E c e b v h => (h.elim fun B h => h.elim fun O h => h.elim fun ps h => h.elim fun bx h => h.elim fun rs h => (h.2.2.2.1 rfl).elim)⟩
  | n + 1 => by
    have R := ok_law_lists Y n
    have z : n + 1 + 0 = (n + 0) + 1 := by omega
    rw [z]
    refine fnFx (k := n + 0) Y.F_law_lists sc_law_lists (fun cdv A outer s H E ρ dx hcl hr tk => ?_)
    obtain ⟨rB, rO, rP, rC⟩ := ρ
    obtain rfl : rC = Y.cl := hcl
    have G_law_lists := R
    exact ⟨_, (qss_one (qs_ret (q_if (qt_val (q_isi2 (T := "list") (U := "tuple") (by first | exact .inl rfl | exact .inr (.inl rfl) | exact .inr (.inr (.inl rfl)) | exact .inr (.inr (.inr (.inl rfl))) | exact .inr (.inr (.inr (.inr (.inl rfl)))) | exact .inr (.inr (.inr (.inr (.inr rfl))))) (by first | exact .inl rfl | exact .inr (.inl rfl) | exact .inr (.inr (.inl rfl)) | exact .inr (.inr (.inr (.inl rfl))) | exact .inr (.inr (.inr (.inr (.inl rfl)))) | exact .inr (.inr (.inr (.inr (.inr rfl))))) (by rfl) Y.m_isinstance (by rfl) Y.m_list (by decide +kernel) (by rfl) Y.m_tuple (by decide +kernel) (q_var 0))) (q_lcO rfl sc_law_lists.nd (qi_seq (q_var 0)) (blkOk_by (own := [("_law_piece", 1)]) (N := N_law_lists) (sc := defScope s_law_lists) (by decide +kernel)) (fun _ _ _ _ _ => (qg_name (ws := [1]) 1 sc_law_lists.nd (by decide) rfl (.inl rfl))) (fun _ _ _ _ _ => qts_nil) (fun _ _ _ _ _ => (q_call false takes_no G_law_lists (hr.mono (by omega)) (by rfl) Y.m_law_lists Y.F_law_lists.kp Y.b_law_lists (qa_cons (q_var 1) qa_nil) (nArgs_cons nArgs_nil)))) (q_var 0)))), rfl⟩
theorem ok_law_is_int (Y : Fs K mg) : FnG P w K mg base (L2.CX P w) 1 Y.f_law_is_int Y.d_law_is_int ["_law_matter"] (spF K Y.cl 1 fn_law_is_int) := by
  refine fnFx (k := 0) Y.F_law_is_int sc_law_is_int (fun cdv A outer s H E ρ dx hcl hr tk => ?_)
  obtain ⟨rB, rO, rP, rC⟩ := ρ
  obtain rfl : rC = Y.cl := hcl
  exact ⟨_, (qss_one (qs_ret (q_and (q_isi (T := "int") (by first | exact .inl rfl | exact .inr (.inl rfl) | exact .inr (.inr (.inl rfl)) | exact .inr (.inr (.inr (.inl rfl))) | exact .inr (.inr (.inr (.inr (.inl rfl)))) | exact .inr (.inr (.inr (.inr (.inr rfl))))) (by rfl) Y.m_isinstance (by rfl) Y.m_int (by decide +kernel) (q_var 0)) (q_one (q_not (q_isi (T := "bool") (by first | exact .inl rfl | exact .inr (.inl rfl) | exact .inr (.inr (.inl rfl)) | exact .inr (.inr (.inr (.inl rfl))) | exact .inr (.inr (.inr (.inr (.inl rfl)))) | exact .inr (.inr (.inr (.inr (.inr rfl))))) (by rfl) Y.m_isinstance (by rfl) Y.m_bool (by decide +kernel) (q_var 0))))))), rfl⟩
theorem ok_law_sees (Y : Fs K mg) : FnG P w K mg base (L2.CX P w) 1 Y.f_law_sees Y.d_law_sees ["_law_crowd", "_law_i", "_law_j"] (spF K Y.cl 3 fn_law_sees) := by
  refine fnFx (k := 0) Y.F_law_sees sc_law_sees (fun cdv A outer s H E ρ dx hcl hr tk => ?_)
  obtain ⟨rB, rO, rP, rC⟩ := ρ
  obtain rfl : rC = Y.cl := hcl
  exact ⟨_, (qss_one (qs_ret (q_all rfl (by rfl) Y.m_all (qa_cons (q_lc rfl sc_law_sees.nd (qi_seq (q_sl (q_var 0) (qo_some (q_add (q_var 1) q_int)) (qo_some (q_var 2)))) (blkOk_by (own := [("_law_soul", 3)]) (N := N_law_sees) (sc := defScope s_law_sees) (by decide +kernel)) (fun _ _ _ _ _ => (qg_name (ws := [3]) 3 sc_law_sees.nd (by decide) rfl (.inl rfl))) (fun _ _ _ _ _ => qts_nil) (fun _ _ _ _ _ => (q_lt (q_var 3) (q_min rfl (by rfl) Y.m_min (qa_cons (q_ix hr.un1 (q_var 0) (q_var 1)) (qa_cons (q_ix hr.un1 (q_var 0) (q_var 2)) qa_nil)))))) qa_nil)))), rfl⟩
theorem ok_law_swaps (Y : Fs K mg) : FnG P w K mg base (L2.CX P w) 2 Y.f_law_swaps Y.d_law_swaps ["_law_crowd"] (spF K Y.cl 1 fn_law_swaps) := by
  refine fnFx (k := 1) Y.F_law_swaps sc_law_swaps (fun cdv A outer s H E ρ dx hcl hr tk => ?_)
  obtain ⟨rB, rO, rP, rC⟩ := ρ
  obtain rfl : rC = Y.cl := hcl
  have G_law_sees := ok_law_sees (P := P) (w := w) (base := base) Y
  exact ⟨_, (qss_cons (qs_set (i := 1) sc_law_swaps.nd rfl (.inl rfl) (q_lst qa_nil))
      (qss_cons (qs_for PassesOwn.leaving rfl (qi_range1 (by rfl) Y.m_range (qa_cons (q_len rfl (by rfl) Y.m_len (qa_cons (q_var 0) qa_nil)) qa_nil)) (qg_name (ws := [2]) 2 sc_law_swaps.nd (by decide) rfl (.inr rfl)) (qss_one (qs_set (i := 1) sc_law_swaps.nd rfl (.inl rfl) (q_add (q_var 1) (q_lc rfl sc_law_swaps.nd (qi_range2 (by rfl) Y.m_range (qa_cons (q_add (q_var 2) q_int) (qa_cons (q_len rfl (by rfl) Y.m_len (qa_cons (q_var 0) qa_nil)) qa_nil))) (blkOk_by (own := [("_law_j", 3)]) (N := N_law_swaps) (sc := defScope s_law_swaps) (by decide +kernel)) (fun _ _ _ _ _ => (qg_name (ws := [3]) 3 sc_law_swaps.nd (by decide) rfl (.inl rfl))) (fun _ _ _ _ _ => (qts_one (qt_val (q_call false takes_no G_law_sees (hr.mono (by decide)) (by rfl) Y.m_law_sees Y.F_law_sees.kp Y.b_law_sees (qa_cons (q_var 0) (qa_cons (q_var 2) (qa_cons (q_var 3) qa_nil))) (nArgs_cons (nArgs_cons (nArgs_cons nArgs_nil))))))) (fun _ _ _ _ _ => (q_tup (qa_cons (q_var 2) (qa_cons (q_var 3) qa_nil)))))))))
      (qss_one (qs_ret (q_var 1))))), rfl⟩
theorem ok_law_turned (Y : Fs K mg) : FnG P w K mg base (L2.CX P w) 1 Y.f_law_turned Y.d_law_turned ["_law_crowd", "_law_swap"] (spF K Y.cl 2 fn_law_turned) := by
  refine fnFx (k := 0) Y.F_law_turned sc_law_turned (fun cdv A outer s H E ρ dx hcl hr tk => ?_)
  obtain ⟨rB, rO, rP, rC⟩ := ρ
  obtain rfl : rC = Y.cl := hcl
  exact ⟨_, (qss_cons (qs_asg (q_var 1) (qg_tupA (n := 2) rfl (qgs_cons (qg_name (ws := [2, 3]) 2 sc_law_turned.nd (by decide) rfl (.inl rfl)) (qgs_cons (qg_name (ws := [2, 3]) 3 sc_law_turned.nd (by decide) rfl (.inl rfl)) qgs_nil))))
      (qss_one (qs_ret (q_add (q_add (q_add (q_add (q_sl (q_var 0) qo_none (qo_some (q_var 2))) (q_tup (qa_cons (q_ix hr.un1 (q_var 0) (q_var 3)) qa_nil))) (q_sl (q_var 0) (qo_some (q_add (q_var 2) q_int)) (qo_some (q_var 3)))) (q_tup (qa_cons (q_ix hr.un1 (q_var 0) (q_var 2)) qa_nil))) (q_sl (q_var 0) (qo_some (q_add (q_var 3) q_int)) qo_none))))), rfl⟩
theorem ok_law_seen_in (Y : Fs K mg) : FnG P w K mg base (L2.CX P w) 2 Y.f_law_seen_in Y.d_law_seen_in ["_law_count", "_law_tour"] (spF K Y.cl 2 fn_law_seen_in) := by
  refine fnFx (k := 1) Y.F_law_seen_in sc_law_seen_in (fun cdv A outer s H E ρ dx hcl hr tk => ?_)
  obtain ⟨rB, rO, rP, rC⟩ := ρ
  obtain rfl : rC = Y.cl := hcl
  have G_law_turned := ok_law_turned (P := P) (w := w) (base := base) Y
  exact ⟨_, (qss_cons (qs_par (i := 2) (j := 3) rfl sc_law_seen_in.nd rfl rfl (by decide) rfl rfl (qa_cons (q_trg1 rfl (by rfl) Y.m_tuple (by rfl) Y.m_range (q_var 0)) (qa_cons q_dict0T qa_nil)) (by rfl))
      (qss_cons (qs_for PassesOwn.leaving rfl (qi_seq (q_var 1)) (qg_tupA (n := 2) rfl (qgs_cons (qg_name (ws := [4, 5]) 4 sc_law_seen_in.nd (by decide) rfl (.inl rfl)) (qgs_cons (qg_name (ws := [4, 5]) 5 sc_law_seen_in.nd (by decide) rfl (.inl rfl)) qgs_nil))) (qss_cons (qs_for PassesOwn.leaving rfl (qi_seq (q_sl (q_var 2) (qo_some (q_add (q_var 4) q_int)) (qo_some (q_var 5)))) (qg_name (ws := [6]) 6 sc_law_seen_in.nd (by decide) rfl (.inl rfl)) (qss_cons (qs_putD hr.un1 (q_var 3) (q_tup (qa_cons (q_var 6) (qa_cons (q_ix hr.un1 (q_var 2) (q_var 4)) qa_nil))) q_bool)
      (qss_one (qs_putD hr.un1 (q_var 3) (q_tup (qa_cons (q_var 6) (qa_cons (q_ix hr.un1 (q_var 2) (q_var 5)) qa_nil))) q_bool))))
      (qss_one (qs_set (i := 2) sc_law_seen_in.nd rfl (.inl rfl) (q_call false tk G_law_turned (hr.mono (by decide)) (by rfl) Y.m_law_turned Y.F_law_turned.kp Y.b_law_turned (qa_cons (q_var 2) (qa_cons (q_tup (qa_cons (q_var 4) (qa_cons (q_var 5) qa_nil))) qa_nil)) (nArgs_cons (nArgs_cons nArgs_nil)))))))
      (qss_one (qs_ret (q_tup (qa_cons (q_var 2) (qa_cons (q_sortT rfl (by rfl) Y.m_sorted (qa_cons (q_var 3) qa_nil)) qa_nil))))))), rfl⟩
theorem ok_law_tests (Y : Fs K mg) : FnG P w K mg base (L2.CX P w) 6 Y.f_law_tests Y.d_law_tests ["_law_box_here", "_law_count", "_law_most", "_law_odds"] (spF K Y.cl 4 fn_law_tests) := by
  refine fnFx (k := 5) Y.F_law_tests sc_law_tests (fun cdv A outer s H E ρ dx hcl hr tk => ?_)
  obtain ⟨rB, rO, rP, rC⟩ := ρ
  obtain rfl : rC = Y.cl := hcl
  have G_law_strewn := ok_law_strewn (P := P) (w := w) (base := base) Y
  have G_law_take := ok_law_take (P := P) (w := w) (base := base) Y 4
  have G_law_swaps := ok_law_swaps (P := P) (w := w) (base := base) Y
  have G_law_of := ok_law_of (P := P) (w := w) (base := base) Y
  have G_law_turned := ok_law_turned (P := P) (w := w) (base := base) Y
  exact ⟨_, (qss_cons (qs_par (i := 4) (j := 5) rfl sc_law_tests.nd rfl rfl (by decide) rfl rfl (qa_cons (q_tuple rfl (by rfl) Y.m_tuple (qa_cons (q_call false tk G_law_strewn (hr.mono (by decide)) (by rfl) Y.m_law_strewn Y.F_law_strewn.kp Y.b_law_strewn (qa_cons (q_var 0) (qa_cons (q_lrg2 rfl (by rfl) Y.m_list (by rfl) Y.m_range q_int (q_add (q_var 1) q_int)) qa_nil)) (nArgs_cons (nArgs_cons nArgs_nil))) qa_nil)) (qa_cons (q_lstO qa_nil) qa_nil)) (by rfl))
      (qss_cons (qs_for PassesOwn.leaving rfl (qi_range1 (by rfl) Y.m_range (qa_cons (q_call false tk G_law_take (hr.mono (by decide)) (by rfl) Y.m_law_take Y.F_law_take.kp Y.b_law_take (qa_cons (q_var 0) (qa_cons (q_add (q_var 2) q_int) qa_nil)) (nArgs_cons (nArgs_cons nArgs_nil))) qa_nil)) (qg_name (ws := [6]) 6 sc_law_tests.nd (by decide) rfl (.inl rfl)) (qss_cons (qs_set (i := 7) sc_law_tests.nd rfl (.inl rfl) (q_call false tk G_law_swaps (hr.mono (by decide)) (by rfl) Y.m_law_swaps Y.F_law_swaps.kp Y.b_law_swaps (qa_cons (q_var 4) qa_nil) (nArgs_cons nArgs_nil)))
      (qss_cons (qs_if (qt_w (qw_or (qt_lt (q_call false tk G_law_take (hr.mono (by decide)) (by rfl) Y.m_law_take Y.F_law_take.kp Y.b_law_take (qa_cons (q_var 0) (qa_cons q_int qa_nil)) (nArgs_cons (nArgs_cons nArgs_nil))) (q_var 3)) (qw_or1 (qt_eq hr.units (q_var 7) (q_lst qa_nil))))) (qss_cons (qs_set (i := 7) sc_law_tests.nd rfl (.inl rfl) (q_lst qa_nil))
      (qss_one (qs_for PassesOwn.leaving rfl (qi_range1 (by rfl) Y.m_range (qa_cons (q_var 1) qa_nil)) (qg_name (ws := [8]) 8 sc_law_tests.nd (by decide) rfl (.inr rfl)) (qss_one (qs_set (i := 7) sc_law_tests.nd rfl (.inl rfl) (q_add (q_var 7) (q_lc rfl sc_law_tests.nd (qi_range2 (by rfl) Y.m_range (qa_cons (q_add (q_var 8) q_int) (qa_cons (q_var 1) qa_nil))) (blkOk_by (own := [("_law_j", 9)]) (N := N_law_tests) (sc := defScope s_law_tests) (by decide +kernel)) (fun _ _ _ _ _ => (qg_name (ws := [9]) 9 sc_law_tests.nd (by decide) rfl (.inl rfl))) (fun _ _ _ _ _ => qts_nil) (fun _ _ _ _ _ => (q_tup (qa_cons (q_var 8) (qa_cons (q_var 9) qa_nil))))))))))) qss_nil)
      (qss_one (qs_if (qt_ne hr.units (q_var 7) (q_lst qa_nil)) (qss_cons (qs_expr (q_append (q_var 5) (qa_cons (q_call false tk G_law_of (hr.mono (by decide)) (by rfl) Y.m_law_of Y.F_law_of.kp Y.b_law_of (qa_cons (q_var 0) (qa_cons (q_var 7) qa_nil)) (nArgs_cons (nArgs_cons nArgs_nil))) qa_nil)))
      (qss_one (qs_set (i := 4) sc_law_tests.nd rfl (.inl rfl) (q_call false tk G_law_turned (hr.mono (by decide)) (by rfl) Y.m_law_turned Y.F_law_turned.kp Y.b_law_turned (qa_cons (q_var 4) (qa_cons (q_ix hr.un1 (q_var 5) (q_neg q_int)) qa_nil)) (nArgs_cons (nArgs_cons nArgs_nil)))))) qss_nil)))))
      (qss_one (qs_ret (q_var 5))))), rfl⟩
theorem ok_law_is_cycle (Y : Fs K mg) : FnG P w K mg base (L2.CX P w) 2 Y.f_law_is_cycle Y.d_law_is_cycle ["_law_seen_pairs", "_law_matter"] (spF K Y.cl 2 fn_law_is_cycle) := by
  refine fnFx (k := 1) Y.F_law_is_cycle sc_law_is_cycle (fun cdv A outer s H E ρ dx hcl hr tk => ?_)
  obtain ⟨rB, rO, rP, rC⟩ := ρ
  obtain rfl : rC = Y.cl := hcl
  have G_law_is_int := ok_law_is_int (P := P) (w := w) (base := base) Y
  exact ⟨_, (qss_cons (qs_if (qt_w (qw_or (qt_not (qt_val (q_isi (T := "list") (by first | exact .inl rfl | exact .inr (.inl rfl) | exact .inr (.inr (.inl rfl)) | exact .inr (.inr (.inr (.inl rfl))) | exact .inr (.inr (.inr (.inr (.inl rfl)))) | exact .inr (.inr (.inr (.inr (.inr rfl))))) (by rfl) Y.m_isinstance (by rfl) Y.m_list (by decide +kernel) (q_var 1)))) (qw_or (qt_lt (q_len rfl (by rfl) Y.m_len (qa_cons (q_var 1) qa_nil)) q_int) (qw_or1 (qt_not (qt_val (q_all rfl (by rfl) Y.m_all (qa_cons (q_lc rfl sc_law_is_cycle.nd (qi_seq (q_var 1)) (blkOk_by (own := [("_law_its", 2)]) (N := N_law_is_cycle) (sc := defScope s_law_is_cycle) (by decide +kernel)) (fun _ _ _ _ _ => (qg_name (ws := [2]) 2 sc_law_is_cycle.nd (by decide) rfl (.inl rfl))) (fun _ _ _ _ _ => qts_nil) (fun _ _ _ _ _ => (q_call false takes_no G_law_is_int (hr.mono (by decide)) (by rfl) Y.m_law_is_int Y.F_law_is_int.kp Y.b_law_is_int (qa_cons (q_var 2) qa_nil) (nArgs_cons nArgs_nil)))) qa_nil)))))))) (qss_one (qs_ret q_bool)) qss_nil)
      (qss_cons (qs_if (qt_ne hr.units (q_lenSet rfl (by rfl) Y.m_len (by rfl) Y.m_set (q_var 1)) (q_len rfl (by rfl) Y.m_len (qa_cons (q_var 1) qa_nil))) (qss_one (qs_ret q_bool)) qss_nil)
      (qss_one (qs_ret (q_all rfl (by rfl) Y.m_all (qa_cons (q_lc rfl sc_law_is_cycle.nd (qi_zipP2 (by rfl) Y.m_zip (qa_cons (q_var 1) (qa_cons (q_add (q_sl (q_var 1) (qo_some q_int) qo_none) (q_sl (q_var 1) qo_none (qo_some q_int))) qa_nil))) (blkOk_by (own := [("_law_mine", 3), ("_law_its", 2)]) (N := N_law_is_cycle) (sc := defScope s_law_is_cycle) (by decide +kernel)) (fun _ _ _ _ _ => (qg_tupA (n := 2) rfl (qgs_cons (qg_name (ws := [3, 2]) 3 sc_law_is_cycle.nd (by decide) rfl (.inl rfl)) (qgs_cons (qg_name (ws := [3, 2]) 2 sc_law_is_cycle.nd (by decide) rfl (.inl rfl)) qgs_nil)))) (fun _ _ _ _ _ => qts_nil) (fun _ _ _ _ _ => (q_in hr.un65 (q_tup (qa_cons (q_var 3) (qa_cons (q_var 2) qa_nil))) (q_var 0)))) qa_nil)))))), rfl⟩
theorem ok_law_is_free (Y : Fs K mg) : FnG P w K mg base (L2.CX P w) 1 Y.f_law_is_free Y.d_law_is_free ["_law_count", "_law_seen_pairs"] (spF K Y.cl 2 fn_law_is_free) := by
  refine fnFx (k := 0) Y.F_law_is_free sc_law_is_free (fun cdv A outer s H E ρ dx hcl hr tk => ?_)
  obtain ⟨rB, rO, rP, rC⟩ := ρ
  obtain rfl : rC = Y.cl := hcl
  exact ⟨_, (qss_cons (qs_set (i := 2) sc_law_is_free.nd rfl (.inr rfl) (q_lrg1 rfl (by rfl) Y.m_list (by rfl) Y.m_range (q_var 0)))
      (qss_cons (qs_while PassesOwn.leaving (qt_ne hr.units (q_var 2) (q_lst qa_nil)) (qss_cons (qs_set (i := 3) sc_law_is_free.nd rfl (.inr rfl) (q_lc rfl sc_law_is_free.nd (qi_seq (q_var 2)) (blkOk_by (own := [("_law_soul", 4)]) (N := N_law_is_free) (sc := defScope s_law_is_free) (by decide +kernel)) (fun _ _ _ _ _ => (qg_name (ws := [4]) 4 sc_law_is_free.nd (by decide) rfl (.inr rfl))) (fun _ _ _ _ _ => (qts_one (qt_not (qt_val (q_any rfl (by rfl) Y.m_any (qa_cons (q_lc rfl sc_law_is_free.nd (qi_seq (q_var 1)) (blkOk_by (own := [("_law_low", 5), ("_law_high", 6)]) (N := N_law_is_free) (sc := { kind := .function, names := [(".0", .local), ("_law_soul", .cell), ("any", .globalImplicit), ("_law_left", .cell), ("_law_seen_pairs", .cell)], isGenerator := false, isCoroutine := false }) (by decide +kernel)) (fun _ _ _ _ _ => (qg_tupA (n := 2) rfl (qgs_cons (qg_name (ws := [5, 6]) 5 sc_law_is_free.nd (by decide) rfl (.inl rfl)) (qgs_cons (qg_name (ws := [5, 6]) 6 sc_law_is_free.nd (by decide) rfl (.inl rfl)) qgs_nil)))) (fun _ _ _ _ _ => (qts_one (qt_eq hr.units (q_var 6) (q_var 4)))) (fun _ _ _ _ _ => (q_in hr.un65 (q_var 5) (q_var 2)))) qa_nil)))))) (fun _ _ _ _ _ => (q_var 4))))
      (qss_cons (qs_if (qt_eq hr.units (q_var 3) (q_lst qa_nil)) (qss_one (qs_ret q_bool)) qss_nil)
      (qss_one (qs_set (i := 2) sc_law_is_free.nd rfl (.inr rfl) (q_lc rfl sc_law_is_free.nd (qi_seq (q_var 2)) (blkOk_by (own := [("_law_soul", 4)]) (N := N_law_is_free) (sc := defScope s_law_is_free) (by decide +kernel)) (fun _ _ _ _ _ => (qg_name (ws := [4]) 4 sc_law_is_free.nd (by decide) rfl (.inl rfl))) (fun _ _ _ _ _ => (qts_one (qt_notIn hr.un65 (q_var 4) (q_var 3)))) (fun _ _ _ _ _ => (q_var 4))))))))
      (qss_one (qs_ret q_bool)))), rfl⟩
theorem ok_law_bent (Y : Fs K mg) : ∀ n : Nat, FnG P w K mg base (L2.CX P w) (n + 5) Y.f_law_bent Y.d_law_bent ["_law_box_here", "_law_part"] (spF K Y.cl 2 (fn_law_bent n))
  | 0 => ⟨fun vs H Q E h => h.elim fun B h => h.elim fun O h => h.elim fun ps h => h.elim fun bx h => h.elim fun rs h => h.1, fun A fr s H as us vs Q E c e b v h => (h.elim fun B h => h.elim fun O h => h.elim fun ps h => h.elim fun bx h => h.elim fun rs h => (h.2.2.2.1 rfl).elim)⟩
  | n + 1 => by
    have R := ok_law_bent Y n
    have z : n + 1 + 5 = (n + 5) + 1 := by omega
    rw [z]
    refine fnFx (k := n + 5) Y.F_law_bent sc_law_bent (fun cdv A outer s H E ρ dx hcl hr tk => ?_)
    obtain ⟨rB, rO, rP, rC⟩ := ρ
    obtain rfl : rC = Y.cl := hcl
    have G_law_bent := R
    have G_law_take := ok_law_take (P := P) (w := w) (base := base) Y 4
    have G_law_of := ok_law_of (P := P) (w := w) (base := base) Y
    exact ⟨_, (qss_cons (qs_set (i := 2) sc_law_bent.nd rfl (.inl rfl) (q_call false tk G_law_take (hr.mono (by omega)) (by rfl) Y.m_law_take Y.F_law_take.kp Y.b_law_take (qa_cons (q_var 0) (qa_cons q_int qa_nil)) (nArgs_cons (nArgs_cons nArgs_nil))))
      (qss_cons (qs_if (qt_w (qw_and (qt_val (q_isi2 (T := "tuple") (U := "list") (by first | exact .inl rfl | exact .inr (.inl rfl) | exact .inr (.inr (.inl rfl)) | exact .inr (.inr (.inr (.inl rfl))) | exact .inr (.inr (.inr (.inr (.inl rfl)))) | exact .inr (.inr (.inr (.inr (.inr rfl))))) (by first | exact .inl rfl | exact .inr (.inl rfl) | exact .inr (.inr (.inl rfl)) | exact .inr (.inr (.inr (.inl rfl))) | exact .inr (.inr (.inr (.inr (.inl rfl)))) | exact .inr (.inr (.inr (.inr (.inr rfl))))) (by rfl) Y.m_isinstance (by rfl) Y.m_tuple (by decide +kernel) (by rfl) Y.m_list (by decide +kernel) (q_var 1))) (qw_and (qt_gt (q_len rfl (by rfl) Y.m_len (qa_cons (q_var 1) qa_nil)) q_int) (qw_and1 (qt_gt (q_var 2) q_int))))) (qss_cons (qs_par (i := 3) (j := 4) rfl sc_law_bent.nd rfl rfl (by decide) rfl rfl (qa_cons (q_call false tk G_law_take (hr.mono (by omega)) (by rfl) Y.m_law_take Y.F_law_take.kp Y.b_law_take (qa_cons (q_var 0) (qa_cons (q_len rfl (by rfl) Y.m_len (qa_cons (q_var 1) qa_nil)) qa_nil)) (nArgs_cons (nArgs_cons nArgs_nil))) (qa_cons (q_listO rfl (by rfl) Y.m_list (qa_cons (q_var 1) qa_nil)) qa_nil)) (by rfl))
      (qss_cons (qs_if (qt_eq hr.units (q_var 2) q_int) (qss_one (qs_expr (q_pop (q_var 4) (qa_cons (q_var 3) qa_nil)))) (qss_one (qs_if (qt_eq hr.units (q_var 2) q_int) (qss_one (qs_expr (q_insert (q_var 4) (qa_cons (q_var 3) (qa_cons (q_ix hr.un1 (q_var 4) (q_var 3)) qa_nil))))) (qss_one (qs_asg (q_call false tk G_law_bent (hr.mono (by omega)) (by rfl) Y.m_law_bent Y.F_law_bent.kp Y.b_law_bent (qa_cons (q_var 0) (qa_cons (q_ix hr.un1 (q_var 4) (q_var 3)) qa_nil)) (nArgs_cons (nArgs_cons nArgs_nil))) (qg_subL (ws := []) (q_var 4) (q_var 3)))))))
      (qss_one (qs_ret (q_if (qt_val (q_isi (T := "tuple") (by first | exact .inl rfl | exact .inr (.inl rfl) | exact .inr (.inr (.inl rfl)) | exact .inr (.inr (.inr (.inl rfl))) | exact .inr (.inr (.inr (.inr (.inl rfl)))) | exact .inr (.inr (.inr (.inr (.inr rfl))))) (by rfl) Y.m_isinstance (by rfl) Y.m_tuple (by decide +kernel) (q_var 1))) (q_tuple rfl (by rfl) Y.m_tuple (qa_cons (q_var 4) qa_nil)) (q_var 4)))))) qss_nil)
      (qss_cons (qs_if (qt_w (qw_and (qt_eq hr.units (q_var 2) q_int) (qw_and1 (qt_val (q_isi2 (T := "tuple") (U := "list") (by first | exact .inl rfl | exact .inr (.inl rfl) | exact .inr (.inr (.inl rfl)) | exact .inr (.inr (.inr (.inl rfl))) | exact .inr (.inr (.inr (.inr (.inl rfl)))) | exact .inr (.inr (.inr (.inr (.inr rfl))))) (by first | exact .inl rfl | exact .inr (.inl rfl) | exact .inr (.inr (.inl rfl)) | exact .inr (.inr (.inr (.inl rfl))) | exact .inr (.inr (.inr (.inr (.inl rfl)))) | exact .inr (.inr (.inr (.inr (.inr rfl))))) (by rfl) Y.m_isinstance (by rfl) Y.m_tuple (by decide +kernel) (by rfl) Y.m_list (by decide +kernel) (q_var 1)))))) (qss_one (qs_ret (q_if (qt_val (q_isi (T := "tuple") (by first | exact .inl rfl | exact .inr (.inl rfl) | exact .inr (.inr (.inl rfl)) | exact .inr (.inr (.inr (.inl rfl))) | exact .inr (.inr (.inr (.inr (.inl rfl)))) | exact .inr (.inr (.inr (.inr (.inr rfl))))) (by rfl) Y.m_isinstance (by rfl) Y.m_tuple (by decide +kernel) (q_var 1))) (q_listO rfl (by rfl) Y.m_list (qa_cons (q_var 1) qa_nil)) (q_tuple rfl (by rfl) Y.m_tuple (qa_cons (q_var 1) qa_nil))))) qss_nil)
      (qss_cons (qs_set (i := 5) sc_law_bent.nd rfl (.inl rfl) (q_lst (qa_cons q_none (qa_cons q_bool (qa_cons q_bool (qa_cons (q_neg q_int) (qa_cons q_int (qa_cons q_int (qa_cons q_str (qa_cons q_str (qa_cons (q_tup qa_nil) (qa_cons (q_lst qa_nil) (qa_cons (q_tup (qa_cons q_int qa_nil)) (qa_cons (q_lst (qa_cons q_int qa_nil)) (qa_cons (q_tup (qa_cons q_int (qa_cons q_int qa_nil))) (qa_cons (q_pow q_int q_int) qa_nil))))))))))))))))
      (qss_cons (qs_if (qt_w (qw_and (qt_val (q_isi (T := "int") (by first | exact .inl rfl | exact .inr (.inl rfl) | exact .inr (.inr (.inl rfl)) | exact .inr (.inr (.inr (.inl rfl))) | exact .inr (.inr (.inr (.inr (.inl rfl)))) | exact .inr (.inr (.inr (.inr (.inr rfl))))) (by rfl) Y.m_isinstance (by rfl) Y.m_int (by decide +kernel) (q_var 1))) (qw_and1 (qt_not (qt_val (q_isi (T := "bool") (by first | exact .inl rfl | exact .inr (.inl rfl) | exact .inr (.inr (.inl rfl)) | exact .inr (.inr (.inr (.inl rfl))) | exact .inr (.inr (.inr (.inr (.inl rfl)))) | exact .inr (.inr (.inr (.inr (.inr rfl))))) (by rfl) Y.m_isinstance (by rfl) Y.m_bool (by decide +kernel) (q_var 1))))))) (qss_one (qs_set (i := 5) sc_law_bent.nd rfl (.inl rfl) (q_add (q_var 5) (q_lst (qa_cons (q_add (q_var 1) q_int) (qa_cons (q_sub (q_var 1) q_int) (qa_cons (q_add (q_var 1) q_int) (qa_cons (q_strI (by rfl) Y.m_str (qa_cons (q_var 1) qa_nil)) qa_nil)))))))) qss_nil)
      (qss_one (qs_ret (q_call true tk G_law_of (hr.mono (by omega)) (by rfl) Y.m_law_of Y.F_law_of.kp Y.b_law_of (qa_cons (q_var 0) (qa_cons (q_var 5) qa_nil)) (nArgs_cons (nArgs_cons nArgs_nil)))))))))), rfl⟩
theorem ok_law_matters (Y : Fs K mg) : FnG P w K mg base (L2.CX P w) 10 Y.f_law_matters Y.d_law_matters ["_law_box_here", "_law_count", "_law_found"] (spF K Y.cl 3 fn_law_matters) := by
  refine fnFx (k := 9) Y.F_law_matters sc_law_matters (fun cdv A outer s H E ρ dx hcl hr tk => ?_)
  obtain ⟨rB, rO, rP, rC⟩ := ρ
  obtain rfl : rC = Y.cl := hcl
  have G_law_strewn := ok_law_strewn (P := P) (w := w) (base := base) Y
  have G_law_bent := ok_law_bent (P := P) (w := w) (base := base) Y 4
  have G_law_of := ok_law_of (P := P) (w := w) (base := base) Y
  exact ⟨_, (qss_cons (qs_set (i := 3) sc_law_matters.nd rfl (.inr rfl) (q_lst (qa_cons (q_var 2) (qa_cons q_none (qa_cons (q_lst qa_nil) (qa_cons (q_tup qa_nil) (qa_cons q_int (qa_cons q_str (qa_cons (q_lst (qa_cons q_int qa_nil)) (qa_cons (q_lst (qa_cons q_int (qa_cons q_int qa_nil))) (qa_cons (q_if (qt_notN (q_var 2) q_none) (q_tuple rfl (by rfl) Y.m_tuple (qa_cons (q_var 2) qa_nil)) (q_tup (qa_cons q_int (qa_cons q_int qa_nil)))) qa_nil)))))))))))
      (qss_cons (qs_if (qt_notN (q_var 2) q_none) (qss_one (qs_set (i := 3) sc_law_matters.nd rfl (.inr rfl) (q_add (q_var 3) (q_lst (qa_cons (q_add (q_sl (q_var 2) (qo_some q_int) qo_none) (q_sl (q_var 2) qo_none (qo_some q_int))) (qa_cons (q_rev (q_var 2)) (qa_cons (q_add (q_var 2) (q_var 2)) (qa_cons (q_sl (q_var 2) (qo_some q_int) qo_none) (qa_cons (q_add (q_lst (qa_cons q_bool qa_nil)) (q_sl (q_var 2) (qo_some q_int) qo_none)) qa_nil))))))))) qss_nil)
      (qss_cons (qs_for PassesOwn.leaving rfl (qi_range1 (by rfl) Y.m_range (qa_cons (q_var 1) qa_nil)) (qg_name (ws := [4]) 4 sc_law_matters.nd (by decide) rfl (.inr rfl)) (qss_one (qs_set (i := 3) sc_law_matters.nd rfl (.inr rfl) (q_add (q_var 3) (q_lc rfl sc_law_matters.nd (qi_range1 (by rfl) Y.m_range (qa_cons (q_var 1) qa_nil)) (blkOk_by (own := [("_law_b", 5)]) (N := N_law_matters) (sc := defScope s_law_matters) (by decide +kernel)) (fun _ _ _ _ _ => (qg_name (ws := [5]) 5 sc_law_matters.nd (by decide) rfl (.inl rfl))) (fun _ _ _ _ _ => qts_nil) (fun _ _ _ _ _ => (q_lst (qa_cons (q_var 4) (qa_cons (q_var 5) qa_nil)))))))))
      (qss_cons (qs_set (i := 3) sc_law_matters.nd rfl (.inr rfl) (q_add (q_var 3) (q_lc rfl sc_law_matters.nd (qi_range1 (by rfl) Y.m_range (qa_cons q_int qa_nil)) (blkOk_by (own := [("_law_turn", 6)]) (N := N_law_matters) (sc := defScope s_law_matters) (by decide +kernel)) (fun _ _ _ _ _ => (qg_name (ws := [6]) 6 sc_law_matters.nd (by decide) rfl (.inl rfl))) (fun _ _ _ _ _ => qts_nil) (fun _ _ _ _ _ => (q_sl (q_call false takes_no G_law_strewn (hr.mono (by decide)) (by rfl) Y.m_law_strewn Y.F_law_strewn.kp Y.b_law_strewn (qa_cons (q_var 0) (qa_cons (q_lrg1 rfl (by rfl) Y.m_list (by rfl) Y.m_range (q_var 1)) qa_nil)) (nArgs_cons (nArgs_cons nArgs_nil))) qo_none (qo_some q_int))))))
      (qss_one (qs_ret (q_add (q_var 3) (q_lc rfl sc_law_matters.nd (qi_range1 (by rfl) Y.m_range (qa_cons q_int qa_nil)) (blkOk_by (own := [("_law_turn", 6)]) (N := N_law_matters) (sc := defScope s_law_matters) (by decide +kernel)) (fun _ _ _ _ _ => (qg_name (ws := [6]) 6 sc_law_matters.nd (by decide) rfl (.inl rfl))) (fun _ _ _ _ _ => qts_nil) (fun _ _ _ _ _ => (q_call false takes_no G_law_bent (hr.mono (by decide)) (by rfl) Y.m_law_bent Y.F_law_bent.kp Y.b_law_bent (qa_cons (q_var 0) (qa_cons (q_call false takes_no G_law_of (hr.mono (by decide)) (by rfl) Y.m_law_of Y.F_law_of.kp Y.b_law_of (qa_cons (q_var 0) (qa_cons (q_var 3) qa_nil)) (nArgs_cons (nArgs_cons nArgs_nil))) qa_nil)) (nArgs_cons (nArgs_cons nArgs_nil)))))))))))), rfl⟩
theorem ok_law_right (Y : Fs K mg) : FnG P w K mg base (L2.CX P w) 11 Y.f_law_right Y.d_law_right ["_law_box_here"] (spF K Y.cl 1 fn_law_right) := by
  refine fnFx (k := 10) Y.F_law_right sc_law_right (fun cdv A outer s H E ρ dx hcl hr tk => ?_)
  obtain ⟨rB, rO, rP, rC⟩ := ρ
  obtain rfl : rC = Y.cl := hcl
  have G_law_take := ok_law_take (P := P) (w := w) (base := base) Y 4
  have G_law_tests := ok_law_tests (P := P) (w := w) (base := base) Y
  have G_law_of := ok_law_of (P := P) (w := w) (base := base) Y
  have G_cycle := ok_cycle (P := P) (w := w) (base := base) Y
  have G_law_seen_in := ok_law_seen_in (P := P) (w := w) (base := base) Y
  have G_law_is_free := ok_law_is_free (P := P) (w := w) (base := base) Y
  have G_law_is_cycle := ok_law_is_cycle (P := P) (w := w) (base := base) Y
  have G_law_matters := ok_law_matters (P := P) (w := w) (base := base) Y
  have G_shows_cycle := ok_shows_cycle (P := P) (w := w) (base := base) Y
  have G_law_lists := ok_law_lists (P := P) (w := w) (base := base) Y 4
  have G_law_same := ok_law_same (P := P) (w := w) (base := base) Y 4
  exact ⟨_, (qss_cons (qs_for PassesOwn.leaving rfl (qi_range1 (by rfl) Y.m_range (qa_cons q_int qa_nil)) (qg_name (ws := [1]) 1 sc_law_right.nd (by decide) rfl (.inl rfl)) (qss_cons (qs_set (i := 2) sc_law_right.nd rfl (.inl rfl) (q_add q_int (q_call false tk G_law_take (hr.mono (by decide)) (by rfl) Y.m_law_take Y.F_law_take.kp Y.b_law_take (qa_cons (q_var 0) (qa_cons q_int qa_nil)) (nArgs_cons (nArgs_cons nArgs_nil)))))
      (qss_cons (qs_set (i := 3) sc_law_right.nd rfl (.inl rfl) (q_call false tk G_law_tests (hr.mono (by decide)) (by rfl) Y.m_law_tests Y.F_law_tests.kp Y.b_law_tests (qa_cons (q_var 0) (qa_cons (q_var 2) (qa_cons q_int (qa_cons (q_call false tk G_law_of (hr.mono (by decide)) (by rfl) Y.m_law_of Y.F_law_of.kp Y.b_law_of (qa_cons (q_var 0) (qa_cons (q_lst (qa_cons q_int (qa_cons q_int (qa_cons q_int qa_nil)))) qa_nil)) (nArgs_cons (nArgs_cons nArgs_nil))) qa_nil)))) (nArgs_cons (nArgs_cons (nArgs_cons (nArgs_cons nArgs_nil))))))
      (qss_cons (qs_par (i := 4) (j := 5) rfl sc_law_right.nd rfl rfl (by decide) rfl rfl (qa_cons (q_ix hr.un1 (q_call false tk G_law_seen_in (hr.mono (by decide)) (by rfl) Y.m_law_seen_in Y.F_law_seen_in.kp Y.b_law_seen_in (qa_cons (q_var 2) (qa_cons (q_var 3) qa_nil)) (nArgs_cons (nArgs_cons nArgs_nil))) q_int) (qa_cons (q_call true tk G_cycle (hr.mono (by decide)) (by rfl) Y.m_cycle Y.F_cycle.kp Y.b_cycle (qa_cons (q_var 2) (qa_cons (q_var 3) qa_nil)) (nArgs_cons (nArgs_cons nArgs_nil))) qa_nil)) (by rfl))
      (qss_cons (qs_if (qt_ne hr.units (q_isN (q_var 5) q_none) (q_call false tk G_law_is_free (hr.mono (by decide)) (by rfl) Y.m_law_is_free Y.F_law_is_free.kp Y.b_law_is_free (qa_cons (q_var 2) (qa_cons (q_var 4) qa_nil)) (nArgs_cons (nArgs_cons nArgs_nil)))) (qss_one (qs_ret q_bool)) qss_nil)
      (qss_cons (qs_if (qt_w (qw_and (qt_notN (q_var 5) q_none) (qw_and1 (qt_not (qt_val (q_loan (q_call false tk G_law_is_cycle (hr.mono (by decide)) (by rfl) Y.m_law_is_cycle Y.F_law_is_cycle.kp Y.b_law_is_cycle (qa_cons (q_var 4) (qa_cons (q_var 5) qa_nil)) (nArgs_cons (nArgs_cons nArgs_nil))))))))) (qss_one (qs_ret q_bool)) qss_nil)
      (qss_cons (qs_loan 5 (qs_for PassesOwn.leaving rfl (qi_seq (q_call false tk G_law_matters (hr.mono (by decide)) (by rfl) Y.m_law_matters Y.F_law_matters.kp Y.b_law_matters (qa_cons (q_var 0) (qa_cons (q_var 2) (qa_cons (q_dat (q_var 5)) qa_nil))) (nArgs_cons (nArgs_cons (nArgs_cons nArgs_nil))))) (qg_name (ws := [6]) 6 sc_law_right.nd (by decide) rfl (.inl rfl)) (qss_cons (qs_par (i := 7) (j := 8) rfl sc_law_right.nd rfl rfl (by decide) rfl rfl (qa_cons (q_repr hr.gds hr.un65 (by rfl) Y.m_repr (qa_cons (q_var 6) qa_nil)) (qa_cons (q_call false tk G_law_is_cycle (hr.mono (by decide)) (by rfl) Y.m_law_is_cycle Y.F_law_is_cycle.kp Y.b_law_is_cycle (qa_cons (q_var 4) (qa_cons (q_var 6) qa_nil)) (nArgs_cons (nArgs_cons nArgs_nil))) qa_nil)) (by rfl))
      (qss_cons (qs_set (i := 9) sc_law_right.nd rfl (.inl rfl) (q_lstO (qa_cons (q_call false tk G_shows_cycle (hr.mono (by decide)) (by rfl) Y.m_shows_cycle Y.F_shows_cycle.kp Y.b_shows_cycle (qa_cons (q_var 2) (qa_cons (q_var 3) (qa_cons (q_var 6) qa_nil))) (nArgs_cons (nArgs_cons (nArgs_cons nArgs_nil)))) qa_nil)))
      (qss_cons (qs_expr (q_append (q_var 9) (qa_cons (q_callK false [2, 1, 0] tk G_shows_cycle (hr.mono (by decide)) (by rfl) Y.m_shows_cycle Y.F_shows_cycle.kp Y.kb_shows_cycle_2_1_0 (qk_cons (q_var 6) (qk_cons (q_call false tk G_law_lists (hr.mono (by decide)) (by rfl) Y.m_law_lists Y.F_law_lists.kp Y.b_law_lists (qa_cons (q_var 3) qa_nil) (nArgs_cons nArgs_nil)) (qk_cons (q_var 2) qk_nil))) (nArgs_cons (nArgs_cons (nArgs_cons nArgs_nil))) (fun rs h => by match rs, h with | [a0, a1, a2], _ => rfl)) qa_nil)))
      (qss_one (qs_if (qt_w (qw_or (qt_not (qt_val (q_loan (q_call false tk G_law_same (hr.mono (by decide)) (by rfl) Y.m_law_same Y.F_law_same.kp Y.b_law_same (qa_cons (q_var 9) (qa_cons (q_lst (qa_cons (q_var 8) (qa_cons (q_var 8) qa_nil))) qa_nil)) (nArgs_cons (nArgs_cons nArgs_nil)))))) (qw_or1 (qt_neS (q_repr hr.gds hr.un65 (by rfl) Y.m_repr (qa_cons (q_var 6) qa_nil)) (q_var 7))))) (qss_one (qs_ret q_bool)) qss_nil)))))))
      (qss_one (qs_if (qt_notN (q_var 5) q_none) (qss_cons (qs_set (i := 7) sc_law_right.nd rfl (.inl rfl) (q_repr hr.gds hr.un65 (by rfl) Y.m_repr (qa_cons (q_var 5) qa_nil)))
      (qss_cons (qs_expr (q_append (q_var 5) (qa_cons q_str qa_nil)))
      (qss_one (qs_if (qt_neS (q_repr hr.gds hr.un65 (by rfl) Y.m_repr (qa_cons (q_callK false [1, 0] tk G_cycle (hr.mono (by decide)) (by rfl) Y.m_cycle Y.F_cycle.kp Y.kb_cycle_1_0 (qk_cons (q_var 3) (qk_cons (q_var 2) qk_nil)) (nArgs_cons (nArgs_cons nArgs_nil)) (fun rs h => by match rs, h with | [a0, a1], _ => rfl)) qa_nil)) (q_var 7)) (qss_one (qs_ret q_bool)) qss_nil)))) qss_nil)))))))))
      (qss_one (qs_ret q_bool))), rfl⟩
theorem ok_law (Y : Fs K mg) : FnG P w K mg base (L2.CX P w) 12 Y.f_law Y.d_law ["_law_script"] (spF K Y.cl 1 fn_law) := by
  refine fnFx (k := 11) Y.F_law sc_law (fun cdv A outer s H E ρ dx hcl hr tk => ?_)
  obtain ⟨rB, rO, rP, rC⟩ := ρ
  obtain rfl : rC = Y.cl := hcl
  have G_law_right := ok_law_right (P := P) (w := w) (base := base) Y
  have G_law_box := ok_law_box (P := P) (w := w) (base := base) Y
  exact ⟨_, (qss_one (qs_ret (q_all rfl (by rfl) Y.m_all (qa_cons (q_lc rfl sc_law.nd (qi_range1 (by rfl) Y.m_range (qa_cons (q_add q_int (q_min rfl (by rfl) Y.m_min (qa_cons q_int (qa_cons (q_len rfl (by rfl) Y.m_len (qa_cons (q_var 0) qa_nil)) qa_nil)))) qa_nil)) (blkOk_by (own := [("_law_k", 1)]) (N := N_law) (sc := defScope s_law) (by decide +kernel)) (fun _ _ _ _ _ => (qg_name (ws := [1]) 1 sc_law.nd (by decide) rfl (.inl rfl))) (fun _ _ _ _ _ => qts_nil) (fun _ _ _ _ _ => (q_call false takes_no G_law_right (hr.mono (by decide)) (by rfl) Y.m_law_right Y.F_law_right.kp Y.b_law_right (qa_cons (q_call true takes_no G_law_box (hr.mono (by decide)) (by rfl) Y.m_law_box Y.F_law_box.kp Y.b_law_box (qa_cons (q_var 0) (qa_cons (q_var 1) qa_nil)) (nArgs_cons (nArgs_cons nArgs_nil))) qa_nil) (nArgs_cons nArgs_nil)))) qa_nil)))), rfl⟩
end
def e_is_number : He.DefD := ⟨("is_number", none), "is_number", "is_number", defArgs s_is_number, defBody s_is_number, defScope s_is_number, [], []⟩
def e_swapped : He.DefD := ⟨("swapped", none), "swapped", "swapped", defArgs s_swapped, defBody s_swapped, defScope s_swapped, [], []⟩
def e_comparisons : He.DefD := ⟨("comparisons", none), "comparisons", "comparisons", defArgs s_comparisons, defBody s_comparisons, defScope s_comparisons, [], []⟩
def e_higher_of : He.DefD := ⟨("higher_of", none), "higher_of", "higher_of", defArgs s_higher_of, defBody s_higher_of, defScope s_higher_of, [], []⟩
def e_sorted_down : He.DefD := ⟨("sorted_down", none), "sorted_down", "sorted_down", defArgs s_sorted_down, defBody s_sorted_down, defScope s_sorted_down, [], []⟩
def e_cycle : He.DefD := ⟨("cycle", none), "cycle", "cycle", defArgs s_cycle, defBody s_cycle, defScope s_cycle, [], []⟩
def e_shows_cycle : He.DefD := ⟨("shows_cycle", none), "shows_cycle", "shows_cycle", defArgs s_shows_cycle, defBody s_shows_cycle, defScope s_shows_cycle, [], []⟩
def e_law_cell_at : He.DefD := ⟨("_law_cell_at", none), "_law_cell_at", "_law_cell_at", defArgs s_law_cell_at, defBody s_law_cell_at, defScope s_law_cell_at, [], []⟩
def e_law_box : He.DefD := ⟨("_law_box", none), "_law_box", "_law_box", defArgs s_law_box, defBody s_law_box, defScope s_law_box, [], []⟩
def e_law_take : He.DefD := ⟨("_law_take", none), "_law_take", "_law_take", defArgs s_law_take, defBody s_law_take, defScope s_law_take, [], []⟩
def e_law_of : He.DefD := ⟨("_law_of", none), "_law_of", "_law_of", defArgs s_law_of, defBody s_law_of, defScope s_law_of, [], []⟩
def e_law_same : He.DefD := ⟨("_law_same", none), "_law_same", "_law_same", defArgs s_law_same, defBody s_law_same, defScope s_law_same, [], []⟩
def e_law_strewn : He.DefD := ⟨("_law_strewn", none), "_law_strewn", "_law_strewn", defArgs s_law_strewn, defBody s_law_strewn, defScope s_law_strewn, [], []⟩
def e_law_lists : He.DefD := ⟨("_law_lists", none), "_law_lists", "_law_lists", defArgs s_law_lists, defBody s_law_lists, defScope s_law_lists, [], []⟩
def e_law_is_int : He.DefD := ⟨("_law_is_int", none), "_law_is_int", "_law_is_int", defArgs s_law_is_int, defBody s_law_is_int, defScope s_law_is_int, [], []⟩
def e_law_sees : He.DefD := ⟨("_law_sees", none), "_law_sees", "_law_sees", defArgs s_law_sees, defBody s_law_sees, defScope s_law_sees, [], []⟩
def e_law_swaps : He.DefD := ⟨("_law_swaps", none), "_law_swaps", "_law_swaps", defArgs s_law_swaps, defBody s_law_swaps, defScope s_law_swaps, [], []⟩
def e_law_turned : He.DefD := ⟨("_law_turned", none), "_law_turned", "_law_turned", defArgs s_law_turned, defBody s_law_turned, defScope s_law_turned, [], []⟩
def e_law_seen_in : He.DefD := ⟨("_law_seen_in", none), "_law_seen_in", "_law_seen_in", defArgs s_law_seen_in, defBody s_law_seen_in, defScope s_law_seen_in, [], []⟩
def e_law_tests : He.DefD := ⟨("_law_tests", none), "_law_tests", "_law_tests", defArgs s_law_tests, defBody s_law_tests, defScope s_law_tests, [], []⟩
def e_law_is_cycle : He.DefD := ⟨("_law_is_cycle", none), "_law_is_cycle", "_law_is_cycle", defArgs s_law_is_cycle, defBody s_law_is_cycle, defScope s_law_is_cycle, [], []⟩
def e_law_is_free : He.DefD := ⟨("_law_is_free", none), "_law_is_free", "_law_is_free", defArgs s_law_is_free, defBody s_law_is_free, defScope s_law_is_free, [], []⟩
def e_law_bent : He.DefD := ⟨("_law_bent", none), "_law_bent", "_law_bent", defArgs s_law_bent, defBody s_law_bent, defScope s_law_bent, [], []⟩
def e_law_matters : He.DefD := ⟨("_law_matters", none), "_law_matters", "_law_matters", defArgs s_law_matters, defBody s_law_matters, defScope s_law_matters, [], []⟩
def e_law_right : He.DefD := ⟨("_law_right", none), "_law_right", "_law_right", defArgs s_law_right, defBody s_law_right, defScope s_law_right, [], []⟩
def e_law : He.DefD := ⟨("law", none), "law", "law", defArgs s_law, defBody s_law, defScope s_law, [], []⟩
def fnE0 : List He.DefD := [e_is_number, e_swapped, e_comparisons, e_higher_of, e_sorted_down, e_cycle, e_shows_cycle, e_law_cell_at, e_law_box, e_law_take, e_law_of, e_law_same, e_law_strewn, e_law_lists, e_law_is_int, e_law_sees, e_law_swaps, e_law_turned, e_law_seen_in, e_law_tests]
def fnE1 : List He.DefD := [e_law_is_cycle, e_law_is_free, e_law_bent, e_law_matters, e_law_right, e_law]
def fnE : List He.DefD := fnE0 ++ fnE1
def fxE : List Fx := []
def faE0 : List He.Fa := [.glo "is_number", .glo "swapped", .glo "comparisons", .glo "higher_of", .glo "sorted_down", .glo "cycle", .glo "shows_cycle", .glo "_law_cell_at", .glo "_law_box", .glo "_law_take", .glo "_law_of", .glo "_law_same", .glo "_law_strewn", .glo "_law_lists", .glo "_law_is_int", .glo "_law_sees", .glo "_law_swaps", .glo "_law_turned", .glo "_law_seen_in", .glo "_law_tests"]
def faE1 : List He.Fa := [.glo "_law_is_cycle", .glo "_law_is_free", .glo "_law_bent", .glo "_law_matters", .glo "_law_right", .glo "law", .free "len", .free "abs", .free "int", .free "min", .free "list", .free "tuple", .free "all", .free "any", .free "sorted", .free "zip", .free "range", .free "isinstance", .free "repr", .free "set"]
def faE2 : List He.Fa := [.free "str", .free "bool"]
def faE : List He.Fa := faE0 ++ faE1 ++ faE2
def namesE0 : List PySem.Str := ["is_number", "swapped", "comparisons", "higher_of", "sorted_down", "cycle", "shows_cycle", "_law_cell_at", "_law_box", "_law_take", "_law_of", "_law_same", "_law_strewn", "_law_lists", "_law_is_int", "_law_sees", "_law_swaps", "_law_turned", "_law_seen_in", "_law_tests"]
def namesE1 : List PySem.Str := ["_law_is_cycle", "_law_is_free", "_law_bent", "_law_matters", "_law_right"]
def namesE : List PySem.Str := namesE0 ++ namesE1
abbrev RE : PySem.W.OpenRow := PySem.W.OpenLaw.row PySem.Challenge.rw_overlooks_k35_cycles_shown_or_not
abbrev hkE : PySem.W.Hook := hookX 4 fxE faE fnE
def obE (s : PySem.W.SharedT) : He.AlD := obsXG 4 fxE faE fnE (HandSHeadRun.getT s)
theorem obE_eq (s : PySem.W.SharedT) : obE s = hkE.obs s.abs := obsXG_eq (HandSHeadRun.getT_eq s)
theorem runE (w : World) : HandSHeadRun.RunEq RE (PySem.W.view RE.prog [29]) hkE obE 4000 namesE w := by
  intro os
  kernel_rfl
theorem factsE {P : Program} {w : World} {K : PySem.W.Frag} {h : Heap} {mg : Str → Option Value} {f : Addr} (X : K.In h) (G : h.Ns mainGlobals mg) (hfa : mg ("law" : Str) = some (.ref f)) (cx : SaysX fxE faE fnE K) :
    ∃ (fd : FuncData) (cl : Str → Addr), (∀ (s : Shared) (v : Value), BindsTo s fd ⟨[v], []⟩ [("_law_script", v)]) ∧ ∀ base : Heap, K.In base → base.Ns mainGlobals mg → FnG P w K mg base (L2.CX P w) 12 f fd ["_law_script"] (spF K cl 1 fn_law) := by
  have c := cx.old
  obtain ⟨d_is_number, D_is_number⟩ := c.def_ 0 (d := e_is_number) rfl
  obtain ⟨d_swapped, D_swapped⟩ := c.def_ 1 (d := e_swapped) rfl
  obtain ⟨d_comparisons, D_comparisons⟩ := c.def_ 2 (d := e_comparisons) rfl
  obtain ⟨d_higher_of, D_higher_of⟩ := c.def_ 3 (d := e_higher_of) rfl
  obtain ⟨d_sorted_down, D_sorted_down⟩ := c.def_ 4 (d := e_sorted_down) rfl
  obtain ⟨d_cycle, D_cycle⟩ := c.def_ 5 (d := e_cycle) rfl
  obtain ⟨d_shows_cycle, D_shows_cycle⟩ := c.def_ 6 (d := e_shows_cycle) rfl
  obtain ⟨d_law_cell_at, D_law_cell_at⟩ := c.def_ 7 (d := e_law_cell_at) rfl
  obtain ⟨d_law_box, D_law_box⟩ := c.def_ 8 (d := e_law_box) rfl
  obtain ⟨d_law_take, D_law_take⟩ := c.def_ 9 (d := e_law_take) rfl
  obtain ⟨d_law_of, D_law_of⟩ := c.def_ 10 (d := e_law_of) rfl
  obtain ⟨d_law_same, D_law_same⟩ := c.def_ 11 (d := e_law_same) rfl
  obtain ⟨d_law_strewn, D_law_strewn⟩ := c.def_ 12 (d := e_law_strewn) rfl
  obtain ⟨d_law_lists, D_law_lists⟩ := c.def_ 13 (d := e_law_lists) rfl
  obtain ⟨d_law_is_int, D_law_is_int⟩ := c.def_ 14 (d := e_law_is_int) rfl
  obtain ⟨d_law_sees, D_law_sees⟩ := c.def_ 15 (d := e_law_sees) rfl
  obtain ⟨d_law_swaps, D_law_swaps⟩ := c.def_ 16 (d := e_law_swaps) rfl
  obtain ⟨d_law_turned, D_law_turned⟩ := c.def_ 17 (d := e_law_turned) rfl
  obtain ⟨d_law_seen_in, D_law_seen_in⟩ := c.def_ 18 (d := e_law_seen_in) rfl
  obtain ⟨d_law_tests, D_law_tests⟩ := c.def_ 19 (d := e_law_tests) rfl
  obtain ⟨d_law_is_cycle, D_law_is_cycle⟩ := c.def_ 20 (d := e_law_is_cycle) rfl
  obtain ⟨d_law_is_free, D_law_is_free⟩ := c.def_ 21 (d := e_law_is_free) rfl
  obtain ⟨d_law_bent, D_law_bent⟩ := c.def_ 22 (d := e_law_bent) rfl
  obtain ⟨d_law_matters, D_law_matters⟩ := c.def_ 23 (d := e_law_matters) rfl
  obtain ⟨d_law_right, D_law_right⟩ := c.def_ 24 (d := e_law_right) rfl
  obtain ⟨d_law, D_law⟩ := c.def_ 25 (d := e_law) rfl
  have e := hfa.symm.trans (He.glo_ok X G (c.fact 25 (f := .glo "law") rfl))
  cases e
  have b := FunD.bindsA (ps := ["_law_script"]) D_law fun _ _ _ _ _ _ us hl => match us, hl with | [_], _ => rfl
  have F_is_number := fun_of (st := s_is_number) D_is_number
  have b_is_number := F_is_number.binds (ps := ["thing"]) fun _ _ _ _ _ _ us hl => match us, hl with | [_], _ => rfl
  have F_swapped := fun_of (st := s_swapped) D_swapped
  have b_swapped := F_swapped.binds (ps := ["row", "pair"]) fun _ _ _ _ _ _ us hl => match us, hl with | [_, _], _ => rfl
  have F_comparisons := fun_of (st := s_comparisons) D_comparisons
  have b_comparisons := F_comparisons.binds (ps := ["many", "reports"]) fun _ _ _ _ _ _ us hl => match us, hl with | [_, _], _ => rfl
  have F_higher_of := fun_of (st := s_higher_of) D_higher_of
  have b_higher_of := F_higher_of.binds (ps := ["many", "reports"]) fun _ _ _ _ _ _ us hl => match us, hl with | [_, _], _ => rfl
  have F_sorted_down := fun_of (st := s_sorted_down) D_sorted_down
  have b_sorted_down := F_sorted_down.binds (ps := ["many", "reports"]) fun _ _ _ _ _ _ us hl => match us, hl with | [_, _], _ => rfl
  have F_cycle := fun_of (st := s_cycle) D_cycle
  have b_cycle := F_cycle.binds (ps := ["many", "reports"]) fun _ _ _ _ _ _ us hl => match us, hl with | [_, _], _ => rfl
  have F_shows_cycle := fun_of (st := s_shows_cycle) D_shows_cycle
  have b_shows_cycle := F_shows_cycle.binds (ps := ["many", "reports", "thing"]) fun _ _ _ _ _ _ us hl => match us, hl with | [_, _, _], _ => rfl
  have F_law_cell_at := fun_of (st := s_law_cell_at) D_law_cell_at
  have b_law_cell_at := F_law_cell_at.binds (ps := ["_law_script", "_law_k"]) fun _ _ _ _ _ _ us hl => match us, hl with | [_, _], _ => rfl
  have F_law_box := fun_of (st := s_law_box) D_law_box
  have b_law_box := F_law_box.binds (ps := ["_law_script", "_law_k"]) fun _ _ _ _ _ _ us hl => match us, hl with | [_, _], _ => rfl
  have F_law_take := fun_of (st := s_law_take) D_law_take
  have b_law_take := F_law_take.binds (ps := ["_law_box_here", "_law_below"]) fun _ _ _ _ _ _ us hl => match us, hl with | [_, _], _ => rfl
  have F_law_of := fun_of (st := s_law_of) D_law_of
  have b_law_of := F_law_of.binds (ps := ["_law_box_here", "_law_some"]) fun _ _ _ _ _ _ us hl => match us, hl with | [_, _], _ => rfl
  have F_law_same := fun_of (st := s_law_same) D_law_same
  have b_law_same := F_law_same.binds (ps := ["_law_found", "_law_due"]) fun _ _ _ _ _ _ us hl => match us, hl with | [_, _], _ => rfl
  have F_law_strewn := fun_of (st := s_law_strewn) D_law_strewn
  have b_law_strewn := F_law_strewn.binds (ps := ["_law_box_here", "_law_some"]) fun _ _ _ _ _ _ us hl => match us, hl with | [_, _], _ => rfl
  have F_law_lists := fun_of (st := s_law_lists) D_law_lists
  have b_law_lists := F_law_lists.binds (ps := ["_law_part"]) fun _ _ _ _ _ _ us hl => match us, hl with | [_], _ => rfl
  have F_law_is_int := fun_of (st := s_law_is_int) D_law_is_int
  have b_law_is_int := F_law_is_int.binds (ps := ["_law_matter"]) fun _ _ _ _ _ _ us hl => match us, hl with | [_], _ => rfl
  have F_law_sees := fun_of (st := s_law_sees) D_law_sees
  have b_law_sees := F_law_sees.binds (ps := ["_law_crowd", "_law_i", "_law_j"]) fun _ _ _ _ _ _ us hl => match us, hl with | [_, _, _], _ => rfl
  have F_law_swaps := fun_of (st := s_law_swaps) D_law_swaps
  have b_law_swaps := F_law_swaps.binds (ps := ["_law_crowd"]) fun _ _ _ _ _ _ us hl => match us, hl with | [_], _ => rfl
  have F_law_turned := fun_of (st := s_law_turned) D_law_turned
  have b_law_turned := F_law_turned.binds (ps := ["_law_crowd", "_law_swap"]) fun _ _ _ _ _ _ us hl => match us, hl with | [_, _], _ => rfl
  have F_law_seen_in := fun_of (st := s_law_seen_in) D_law_seen_in
  have b_law_seen_in := F_law_seen_in.binds (ps := ["_law_count", "_law_tour"]) fun _ _ _ _ _ _ us hl => match us, hl with | [_, _], _ => rfl
  have F_law_tests := fun_of (st := s_law_tests) D_law_tests
  have b_law_tests := F_law_tests.binds (ps := ["_law_box_here", "_law_count", "_law_most", "_law_odds"]) fun _ _ _ _ _ _ us hl => match us, hl with | [_, _, _, _], _ => rfl
  have F_law_is_cycle := fun_of (st := s_law_is_cycle) D_law_is_cycle
  have b_law_is_cycle := F_law_is_cycle.binds (ps := ["_law_seen_pairs", "_law_matter"]) fun _ _ _ _ _ _ us hl => match us, hl with | [_, _], _ => rfl
  have F_law_is_free := fun_of (st := s_law_is_free) D_law_is_free
  have b_law_is_free := F_law_is_free.binds (ps := ["_law_count", "_law_seen_pairs"]) fun _ _ _ _ _ _ us hl => match us, hl with | [_, _], _ => rfl
  have F_law_bent := fun_of (st := s_law_bent) D_law_bent
  have b_law_bent := F_law_bent.binds (ps := ["_law_box_here", "_law_part"]) fun _ _ _ _ _ _ us hl => match us, hl with | [_, _], _ => rfl
  have F_law_matters := fun_of (st := s_law_matters) D_law_matters
  have b_law_matters := F_law_matters.binds (ps := ["_law_box_here", "_law_count", "_law_found"]) fun _ _ _ _ _ _ us hl => match us, hl with | [_, _, _], _ => rfl
  have F_law_right := fun_of (st := s_law_right) D_law_right
  have b_law_right := F_law_right.binds (ps := ["_law_box_here"]) fun _ _ _ _ _ _ us hl => match us, hl with | [_], _ => rfl
  have F_law := fun_of (st := s_law) D_law
  have b_law := F_law.binds (ps := ["_law_script"]) fun _ _ _ _ _ _ us hl => match us, hl with | [_], _ => rfl
  have kb_shows_cycle_2_1_0 := DL.Fun.kbindsN (ps := ["many", "reports", "thing"] ) (ks := ["thing", "reports", "many"]) [2, 1, 0] F_shows_cycle (by simp) (fun _ _ _ _ _ _ ws hl => by
    match ws, hl with
    | a0 :: a1 :: a2 :: _, _ => rfl
    | [], hl => exact absurd hl (by simp [permI])
    | [a0], hl => exact absurd hl (by simp [permI])
    | [a0, a1], hl => exact absurd hl (by simp [permI])
    )
  have kb_cycle_1_0 := DL.Fun.kbindsN (ps := ["many", "reports"] ) (ks := ["reports", "many"]) [1, 0] F_cycle (by simp) (fun _ _ _ _ _ _ ws hl => by
    match ws, hl with
    | a0 :: a1 :: _, _ => rfl
    | [], hl => exact absurd hl (by simp [permI])
    | [a0], hl => exact absurd hl (by simp [permI])
    )
  let Y : Fs K mg := { cl := He.ga K, kb_shows_cycle_2_1_0 := kb_shows_cycle_2_1_0, kb_cycle_1_0 := kb_cycle_1_0, f_is_number := _, d_is_number := d_is_number, F_is_number := F_is_number, m_is_number := He.glo_ok X G (c.fact 0 (f := .glo "is_number") rfl), b_is_number := b_is_number, f_swapped := _, d_swapped := d_swapped, F_swapped := F_swapped, m_swapped := He.glo_ok X G (c.fact 1 (f := .glo "swapped") rfl), b_swapped := b_swapped, f_comparisons := _, d_comparisons := d_comparisons, F_comparisons := F_comparisons, m_comparisons := He.glo_ok X G (c.fact 2 (f := .glo "comparisons") rfl), b_comparisons := b_comparisons, f_higher_of := _, d_higher_of := d_higher_of, F_higher_of := F_higher_of, m_higher_of := He.glo_ok X G (c.fact 3 (f := .glo "higher_of") rfl), b_higher_of := b_higher_of, f_sorted_down := _, d_sorted_down := d_sorted_down, F_sorted_down := F_sorted_down, m_sorted_down := He.glo_ok X G (c.fact 4 (f := .glo "sorted_down") rfl), b_sorted_down := b_sorted_down, f_cycle := _, d_cycle := d_cycle, F_cycle := F_cycle, m_cycle := He.glo_ok X G (c.fact 5 (f := .glo "cycle") rfl), b_cycle := b_cycle, f_shows_cycle := _, d_shows_cycle := d_shows_cycle, F_shows_cycle := F_shows_cycle, m_shows_cycle := He.glo_ok X G (c.fact 6 (f := .glo "shows_cycle") rfl), b_shows_cycle := b_shows_cycle, f_law_cell_at := _, d_law_cell_at := d_law_cell_at, F_law_cell_at := F_law_cell_at, m_law_cell_at := He.glo_ok X G (c.fact 7 (f := .glo "_law_cell_at") rfl), b_law_cell_at := b_law_cell_at, f_law_box := _, d_law_box := d_law_box, F_law_box := F_law_box, m_law_box := He.glo_ok X G (c.fact 8 (f := .glo "_law_box") rfl), b_law_box := b_law_box, f_law_take := _, d_law_take := d_law_take, F_law_take := F_law_take, m_law_take := He.glo_ok X G (c.fact 9 (f := .glo "_law_take") rfl), b_law_take := b_law_take, f_law_of := _, d_law_of := d_law_of, F_law_of := F_law_of, m_law_of := He.glo_ok X G (c.fact 10 (f := .glo "_law_of") rfl), b_law_of := b_law_of, f_law_same := _, d_law_same := d_law_same, F_law_same := F_law_same, m_law_same := He.glo_ok X G (c.fact 11 (f := .glo "_law_same") rfl), b_law_same := b_law_same, f_law_strewn := _, d_law_strewn := d_law_strewn, F_law_strewn := F_law_strewn, m_law_strewn := He.glo_ok X G (c.fact 12 (f := .glo "_law_strewn") rfl), b_law_strewn := b_law_strewn, f_law_lists := _, d_law_lists := d_law_lists, F_law_lists := F_law_lists, m_law_lists := He.glo_ok X G (c.fact 13 (f := .glo "_law_lists") rfl), b_law_lists := b_law_lists, f_law_is_int := _, d_law_is_int := d_law_is_int, F_law_is_int := F_law_is_int, m_law_is_int := He.glo_ok X G (c.fact 14 (f := .glo "_law_is_int") rfl), b_law_is_int := b_law_is_int, f_law_sees := _, d_law_sees := d_law_sees, F_law_sees := F_law_sees, m_law_sees := He.glo_ok X G (c.fact 15 (f := .glo "_law_sees") rfl), b_law_sees := b_law_sees, f_law_swaps := _, d_law_swaps := d_law_swaps, F_law_swaps := F_law_swaps, m_law_swaps := He.glo_ok X G (c.fact 16 (f := .glo "_law_swaps") rfl), b_law_swaps := b_law_swaps, f_law_turned := _, d_law_turned := d_law_turned, F_law_turned := F_law_turned, m_law_turned := He.glo_ok X G (c.fact 17 (f := .glo "_law_turned") rfl), b_law_turned := b_law_turned, f_law_seen_in := _, d_law_seen_in := d_law_seen_in, F_law_seen_in := F_law_seen_in, m_law_seen_in := He.glo_ok X G (c.fact 18 (f := .glo "_law_seen_in") rfl), b_law_seen_in := b_law_seen_in, f_law_tests := _, d_law_tests := d_law_tests, F_law_tests := F_law_tests, m_law_tests := He.glo_ok X G (c.fact 19 (f := .glo "_law_tests") rfl), b_law_tests := b_law_tests, f_law_is_cycle := _, d_law_is_cycle := d_law_is_cycle, F_law_is_cycle := F_law_is_cycle, m_law_is_cycle := He.glo_ok X G (c.fact 20 (f := .glo "_law_is_cycle") rfl), b_law_is_cycle := b_law_is_cycle, f_law_is_free := _, d_law_is_free := d_law_is_free, F_law_is_free := F_law_is_free, m_law_is_free := He.glo_ok X G (c.fact 21 (f := .glo "_law_is_free") rfl), b_law_is_free := b_law_is_free, f_law_bent := _, d_law_bent := d_law_bent, F_law_bent := F_law_bent, m_law_bent := He.glo_ok X G (c.fact 22 (f := .glo "_law_bent") rfl), b_law_bent := b_law_bent, f_law_matters := _, d_law_matters := d_law_matters, F_law_matters := F_law_matters, m_law_matters := He.glo_ok X G (c.fact 23 (f := .glo "_law_matters") rfl), b_law_matters := b_law_matters, f_law_right := _, d_law_right := d_law_right, F_law_right := F_law_right, m_law_right := He.glo_ok X G (c.fact 24 (f := .glo "_law_right") rfl), b_law_right := b_law_right, f_law := _, d_law := d_law, F_law := F_law, m_law := He.glo_ok X G (c.fact 25 (f := .glo "law") rfl), b_law := b_law, m_len := He.free_ok X G (c.fact 26 (f := .free "len") rfl), m_abs := He.free_ok X G (c.fact 27 (f := .free "abs") rfl), m_int := He.free_ok X G (c.fact 28 (f := .free "int") rfl), m_min := He.free_ok X G (c.fact 29 (f := .free "min") rfl), m_list := He.free_ok X G (c.fact 30 (f := .free "list") rfl), m_tuple := He.free_ok X G (c.fact 31 (f := .free "tuple") rfl), m_all := He.free_ok X G (c.fact 32 (f := .free "all") rfl), m_any := He.free_ok X G (c.fact 33 (f := .free "any") rfl), m_sorted := He.free_ok X G (c.fact 34 (f := .free "sorted") rfl), m_zip := He.free_ok X G (c.fact 35 (f := .free "zip") rfl), m_range := He.free_ok X G (c.fact 36 (f := .free "range") rfl), m_isinstance := He.free_ok X G (c.fact 37 (f := .free "isinstance") rfl), m_repr := He.free_ok X G (c.fact 38 (f := .free "repr") rfl), m_set := He.free_ok X G (c.fact 39 (f := .free "set") rfl), m_str := He.free_ok X G (c.fact 40 (f := .free "str") rfl), m_bool := He.free_ok X G (c.fact 41 (f := .free "bool") rfl) }
  exact ⟨d_law, Y.cl, fun s v => b s [v] rfl, fun base _ _ => ok_law Y⟩
end LawP
open PySem PySem.W PySem.Calls PyProof.Rows
theorem PySem.Challenge.cw_overlooks_k35_cycles_shown_or_not_holds : PySem.Challenge.rw_overlooks_k35_cycles_shown_or_not.Holds := by
  w_on; o_law
  refine HandSHeadRun.head_any (r := OpenLaw.row PySem.Challenge.rw_overlooks_k35_cycles_shown_or_not) (q := view (OpenLaw.row PySem.Challenge.rw_overlooks_k35_cycles_shown_or_not).prog [29]) (H := LawP.hkE) (ob := LawP.obE) (M := 4000) (loose := LawP.namesE) (d := HandSHeadRun.topDef (OpenLaw.row PySem.Challenge.rw_overlooks_k35_cycles_shown_or_not).prog 29) (kwd := []) LawP.obE_eq
    (by kernel_rfl) (fun s => by kernel_rfl) LawP.runE (by kernel_rfl) (by kernel_rfl) (by kernel_rfl) (by rfl) (by first | assumption | decide +kernel) (by decide +kernel) ⟨rfl, rfl, rfl, rfl, rfl, by decide +kernel⟩ ?hw ?hc
  case hw => w_witness2
  case hc =>
    refine DL.walkF (l := PySem.Challenge.rw_overlooks_k35_cycles_shown_or_not) (n := 63) (k := 12) (x := "_law_script") (fn := DL.fn_law) rfl (by decide) (by kernel_rfl) ⟨rfl, by decide, by decide⟩ (fun ns _ => DL.law_true ns) ?F
    intro w mg fa h Y G hmg0
    obtain ⟨K, KX, c⟩ := Y
    have hmg : mg ("law" : PySem.Str) = some (.ref fa) := by
      have e : (HandSHeadRun.topDef (OpenLaw.row PySem.Challenge.rw_overlooks_k35_cycles_shown_or_not).prog 29).name = ("law" : PySem.Str) := by kernel_rfl
      rw [← e]
      exact hmg0
    obtain ⟨fd, cl, hb, hF⟩ := LawP.factsE (P := (PySem.Challenge.rw_overlooks_k35_cycles_shown_or_not).prog) (w := w) KX G hmg c
    exact ⟨K, fd, cl, KX, hb, hF⟩
