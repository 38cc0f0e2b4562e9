import PyProof.Rows.All
import Wide.All
import OpenK.AllK
import Wide.FinOn
import HandS.ForMost
import HandS.ForExc
import HandS.Deep
import HandS.Style
import HandS.SortInts
import HandS.More
import HandS.Flow
import KE.KeyNested
import HandS.TupAny
import HandS.Wide
import HandS.Conv
import HandS.Text
import HandS.TupMul
import HandS.SortOrd
import HandS.Exc
import HandS.ExcOwn
import KE.GoesZip
import KE.GoesEnum
import KE.GoesEnumKw
import KE.KDictZip
import PyProof.ListNew
import HandS.ListItems
import HandS.Head2
import HandS.HeadEnd
import HandS.HeadHook1
import HandS.HeadHook2
import HandS.IsInst
import KE.KRevSl
import KE.KTryMore
import HandS.ExcCtx
import HandS.Keys
import KE.KExcInit
import HandS.ExcInit
import HandS.FStr
import HandS.FStrTup
import PyProof.ReprRoads
import PyProof.CallFns
import HandS.ExcField
import HandS.ExcIs
import HandS.TryOnly
import HandS.TupSets
import HandS.List
import KE.KSortTup
import HandS.SortRule
import PyProof.CallStr
import PyProof.ReprLen
import HandS.SetFor
import KE.KSortTupG
import HandS.TupLe
import HandS.DictTup
import KE.KDictDisplayH
import KE.KDictCopyH
import KE.KDictSum
import HandS.DictComp
import HandS.Finally
import HandS.Defaults
import HandS.Iter
import HandS.Codes
import PyProof.ListStr
import HandS.TryMany
import KE.KIndexOf
import KE.DataMinMax
import ObjForm.LawKit
import PyProof.InstNe
import KE.KFmtOwn
import HandS.ExcValue
import PySem.Challenge.RW_overlooks_k03_sights_and_exchanges
set_option Elab.async false
set_option linter.all false
set_option maxRecDepth 100000
set_option maxHeartbeats 4000000
set_option autoImplicit false
namespace DL
open PySem PySem.Spec PyProof.Rows L2
/-- an error: its class (a class of the text), its own fields -/
structure Xn where
  cls : Str
  fld : List (Str × PyData)
/-- an attribute: data, an own cell, a shared dict, an error -/
inductive Fv where
  | d (x : PyData)
  | o (k : Nat)
  | kd (kvs : List (Key × PyData))
  | x (n : Xn)
/-- what an own cell holds -/
inductive Ct where
  | dead
  | lst (ds : List PyData)
  | dK (kvs : List (Key × PyData))
  | dT (kvs : List (List Key × PyData))
  | dN (kvs : List (NestedKey × PyData))
  | dL (kvs : List (NestedKey × PyData))
  | dF (kvs : List (Key × PyData))
  | ins (c : Str) (dj : Nat) (fs : List (Str × Fv))
  | odx
  | lM (fs : List (Fv))
def flat : Ct → Bool
  | .dead => false
  | .ins _ _ _ => false
  | .odx => false
  | .lM _ => false
  | _ => true
/-- a value: data, the own cell j, the script, an error, a shared dict -/
inductive R where
  | d (x : PyData)
  | o (j : Nat)
  | s (ns : List Int)
  | x (n : Xn)
  | m (ct : Ct)
  | l (js : List Nat)
  | f (j : Nat) (ds : List PyData)
  | u (nd : Bool) (ds : List PyData)
  | t (tp : Bool) (fs : List Fv)
structure G where
  sl : List (Option R)
  ce : List Ct
abbrev DE := G → (R → G → Prop) → Prop
abbrev DT := G → (Bool → G → Prop) → Prop
abbrev DA := G → (List R → G → Prop) → Prop
structure DEnds where
  nx : G → Prop
  rt : R → G → Prop
  bk : G → Prop := fun _ => False
  ct : G → Prop := fun _ => False
abbrev DS := DEnds → G → Prop
abbrev DG := R → G → (G → Prop) → Prop
/-- the text's own things -/
class Tx where
  fr : PySem.W.Frag
instance (priority := low) dfTx : Tx := ⟨[]⟩
variable [Tx]
/-- a tuple without an attribute dict -/
def NdT (K : PySem.W.Frag) (B : Hp) (a : Addr) (xs : List V) : Prop := (∃ o : Obj, B a = some (.frz o (.tup xs)) ∧ o.dict = none) ∨
  ∃ (o : Obj) (its : Array Value) (n : Nat), K.lookup a = some o ∧ o.cls = .type "tuple" ∧ o.dict = none ∧ o.data = .seq its n ∧ its.size ≤ sizeLine ∧ Vals xs its.toList
theorem NdT.sq {K : PySem.W.Frag} {B : Hp} {a : Addr} {xs : List V} (h : NdT K B a xs) : SqT K B a xs := by
  rcases h with ⟨o, h, _⟩ | ⟨o, its, n, h1, h2, _, h3, h4, h5⟩
  · exact .inl (.inr ⟨o, h⟩)
  · exact .inr ⟨o, its, n, h1, h2, h3, h4, h5⟩
theorem NdT.same {K : PySem.W.Frag} {B B' : Hp} {a : Addr} {xs : List V} (e : Same B B') (h : NdT K B a xs) : NdT K B' a xs := by
  rcases h with ⟨o, h, n⟩ | h
  · exact .inl ⟨o, e _ _ h, n⟩
  · exact .inr h
mutual
/-- v is the data x, every list and tuple tracked in B -/
inductive Dq (B : Hp) : V → PyData → Prop
  | non : Dq B .non .none
  | bl (b : Bool) : Dq B (.bl b) (.bool b)
  | int (i : Int) : Dq B (.int i) (.int i)
  | str (x : Str) : Dq B (.str x) (.str x)
  | lst {a : Addr} {xs : List V} {ds : List PyData} : B a = some (.lst xs) → DqAll B xs ds → Dq B (.ref a) (.list ds)
  | tup {a : Addr} {xs : List V} {ds : List PyData} : NdT Tx.fr B a xs → DqAll B xs ds → Dq B (.ref a) (.tuple ds)
inductive DqAll (B : Hp) : List V → List PyData → Prop
  | nil : DqAll B [] []
  | cons {v : V} {vs : List V} {d : PyData} {ds : List PyData} : Dq B v d → DqAll B vs ds → DqAll B (v :: vs) (d :: ds)
end
/-- where the def itself stands: its callers' facts, as they were when it was called -/
structure Root where
  B : Hp
  O : Hp
  P : List Addr
  cl : Str → Addr
structure KR where
  fr : PySem.W.Frag
  rt : Root
/-- an error's own fields -/
def XnF (B : Hp) (n : Xn) (d : Option Addr) : Prop := n.fld = [] ∧ d = none ∨ ∃ d0 us, d = some d0 ∧ B d0 = some (.xd us) ∧ Paired (fun (p : Str × V) (q : Str × PyData) => p.1 = q.1 ∧ Dq B p.2 q.2) us n.fld
/-- an error that has been caught: its record -/
def excO (a C : Addr) (d : Option Addr) : HO := .ext fun h => ∃ (o : Obj) (vs : Array Value), h.get? a = some o ∧ o.cls = .ref C ∧ o.dict = d ∧ o.data = .fields vs
mutual
def plainN : NestedKey → Bool
  | .num _ => true
  | .tup ks => plainNs ks
  | _ => false
def plainNs : List NestedKey → Bool
  | [] => true
  | k :: ks => plainN k && plainNs ks
end
def entN (w : World) (x : NestedKey × Addr × Value) : DictEntry := ⟨x.1.hash w, .ref x.2.1, x.2.2⟩
abbrev NV (us : List (NestedKey × Addr × V)) (zs : List (NestedKey × Addr × Value)) : Prop := Paired (fun (p : NestedKey × Addr × V) (q : NestedKey × Addr × Value) => p.1 = q.1 ∧ p.2.1 = q.2.1 ∧ RelV p.2.2 q.2.2) us zs
/-- a dict whose keys are tuples of whole numbers, nested -/
def dnP (a : Addr) (us : List (NestedKey × Addr × V)) (h : Heap) : Prop := us.length ≤ sizeLine ∧ (a == sysModules) = false ∧ (∀ u ∈ us, plainN u.1 = true ∧ u.1.depth ≤ 8) ∧ (us.map (·.1)).Nodup ∧ ∃ zs, NV us zs ∧
  ∃ o es ep, h.get? a = some o ∧ o.ExactDict ∧ o.data = .dict es ep ∧ ∀ w : World, es.toList = zs.map (entN w)
def dnO (a : Addr) (us : List (NestedKey × Addr × V)) : HO := .ext (dnP a us)
abbrev NOk (B : Hp) : List (NestedKey × Addr × V) → List (NestedKey × PyData) → Prop := Paired fun (p : NestedKey × Addr × V) (q : NestedKey × PyData) => p.1 = q.1 ∧ Dq B (.ref p.2.1) p.1.data ∧ Dq B p.2.2 q.2
def FvOk (K : KR) (B : Hp) (al : List Addr) (v : V) : Fv → Prop
  | .d x => Dq B v x
  | .o k => ∃ a, al[k]? = some a ∧ v = .ref a
  | .kd kvs => ∃ a o us, v = .ref a ∧ B a = some (.frz o (.dK us)) ∧ Paired (fun (p : Key × V) (q : Key × PyData) => p.1 = q.1 ∧ Dq B p.2 q.2) us kvs
  | .x n => ∃ a d, v = .ref a ∧ B a = some (excO a (K.rt.cl n.cls) d) ∧ XnF B n d
def CtOk (K : KR) (B : Hp) (al : List Addr) (H : Hp) (a : Addr) : Ct → Prop
  | .dead => ∃ o, H a = some o ∧ ∀ us, o ≠ .tup us
  | .lst ds => ∃ xs, H a = some (.lst xs) ∧ DqAll B xs ds
  | .dK kvs => ∃ us, H a = some (.dK us) ∧ Paired (fun (p : Key × V) (q : Key × PyData) => p.1 = q.1 ∧ Dq B p.2 q.2) us kvs
  | .dT kvs => ∃ us, H a = some (.dT us) ∧ Paired (fun (p : List Key × V) (q : List Key × PyData) => p.1 = q.1 ∧ Dq B p.2 q.2) us kvs
  | .dN kvs => ∃ us, H a = some (dnO a us) ∧ NOk B us kvs
  | .dL kvs => ∃ o us, H a = some (.frz o (dnO a us)) ∧ NOk B us kvs
  | .dF kvs => ∃ o us, H a = some (.frz o (.dK us)) ∧ Paired (fun (p : Key × V) (q : Key × PyData) => p.1 = q.1 ∧ Dq B p.2 q.2) us kvs
  | .ins c dj fs => ∃ dx us, al[dj]? = some dx ∧ H a = some (.ins (K.rt.cl c) dx us) ∧ Paired (fun (p : Str × V) (q : Str × Fv) => p.1 = q.1 ∧ FvOk K B al p.2 q.2) us fs
  | .odx => ∃ x, H a = some (.own x)
  | .lM fs => ∃ xs, H a = some (.lst xs) ∧ Paired (FvOk K B al) xs fs
def RvOk (K : KR) (B : Hp) (al : List Addr) (v : V) : R → Prop
  | .d x => Dq B v x
  | .s ns => ∃ a, v = .ref a ∧ SqL K.fr B a (ns.map V.int)
  | .o j => ∃ a, al[j]? = some a ∧ v = .ref a
  | .x n => ∃ a d, v = .ref a ∧ B a = some (excO a (K.rt.cl n.cls) d) ∧ XnF B n d
  | .m ct => ∃ a, v = .ref a ∧ flat ct = true ∧ CtOk K B al B a ct
  | .l js => ∃ p xs, v = .ref p ∧ B p = some (.lst xs) ∧ Paired (fun (x : V) (j : Nat) => ∃ a, al[j]? = some a ∧ x = V.ref a) xs js
  | .f j ds => ∃ p xs, al[j]? = some p ∧ v = .ref p ∧ B p = some (.lst xs) ∧ DqAll B xs ds
  | .u nd ds => ∃ p xs, v = .ref p ∧ SqT K.fr B p xs ∧ (nd = true → NdT K.fr B p xs) ∧ DqAll B xs ds
  | .t tp fs => ∃ p xs, v = .ref p ∧ (if tp = true then NdT Tx.fr B p xs else B p = some (.lst xs)) ∧ Paired (FvOk K B al) xs fs
/-- the callers: shared facts, own things, the cells handed in -/
structure Fm where
  B : Hp
  O : Hp
  P : List Addr
structure Stt (K : KR) (F : Fm) (g : G) (ts : List (V × R)) (s : L2.St) (H B : Hp) (al : List Addr) : Prop where
  rb : Same K.rt.B F.B
  ro : ∀ a o, K.rt.O a = some o → F.O a = some o
  rp : ∃ t, F.P = K.rt.P ++ t
  ot : ∀ a us, F.O a ≠ some (.tup us)
  fb : Same F.B B
  bh : Same B H
  fo : ∀ a o, F.O a = some o → H a = some o ∧ B a = none ∧ a ∉ al
  pre : ∃ t, al = F.P ++ t
  len : al.length = g.ce.length
  nd : al.Nodup
  lv : ∀ a ∈ al, ∃ o, H a = some o
  nb : ∀ (j : Nat) (a : Addr) (ct : Ct), al[j]? = some a → g.ce[j]? = some ct → ct ≠ Ct.dead → B a = none
  ce : ∀ (j : Nat) (a : Addr) (ct : Ct), al[j]? = some a → g.ce[j]? = some ct → CtOk K B al H a ct
  sl : ∀ (i : Nat) (r : R), g.sl[i]? = some (some r) → ∃ v, s[i]? = some (some v) ∧ RvOk K B al v r
  tm : ∀ p ∈ ts, RvOk K B al p.1 p.2
  sln : g.sl.length = s.length
  tx : K.fr = Tx.fr
theorem same_l {K : PySem.W.Frag} {H H' : Hp} {a : Addr} {xs : List V} (e : Same H H') (h : SqL K H a xs) : SqL K H' a xs := e.seq h
theorem same_t {K : PySem.W.Frag} {H H' : Hp} {a : Addr} {xs : List V} (e : Same H H') (h : SqT K H a xs) : SqT K H' a xs := by
  rcases h with (h | ⟨o, h⟩) | h
  · exact .inl (.inl (e _ _ h))
  · exact .inl (.inr ⟨o, e _ _ h⟩)
  · exact .inr h
mutual
theorem dq_mono {H H' : Hp} (e : Same H H') : ∀ {v : V} {x : PyData}, Dq H v x → Dq H' v x
  | _, _, .non => .non
  | _, _, .bl b => .bl b
  | _, _, .int i => .int i
  | _, _, .str x => .str x
  | _, _, .lst h r => .lst (e _ _ h) (dqall_mono e r)
  | _, _, .tup h r => .tup (h.same e) (dqall_mono e r)
theorem dqall_mono {H H' : Hp} (e : Same H H') : ∀ {vs : List V} {xs : List PyData}, DqAll H vs xs → DqAll H' vs xs
  | _, _, .nil => .nil
  | _, _, .cons a b => .cons (dq_mono e a) (dqall_mono e b)
end
mutual
theorem dq_dp {K : PySem.W.Frag} {H : Hp} (ek : K = Tx.fr) : ∀ {v : V} {x : PyData}, Dq H v x → Dp K H v x
  | _, _, .non => .non
  | _, _, .bl b => .bl b
  | _, _, .int i => .int i
  | _, _, .str x => .str x
  | _, _, .lst h r => .lst (.inl (.inl h)) (dqall_dp ek r)
  | _, _, .tup h r => .tup (ek ▸ h.sq) (dqall_dp ek r)
theorem dqall_dp {K : PySem.W.Frag} {H : Hp} (ek : K = Tx.fr) : ∀ {vs : List V} {xs : List PyData}, DqAll H vs xs → DpAll K H vs xs
  | _, _, .nil => .nil
  | _, _, .cons a b => .cons (dq_dp ek a) (dqall_dp ek b)
end
theorem same_new {H : Hp} {p : Addr} {o : HO} (h : H p = none) : Same H (upd H p o) := fun b x e => by
  rw [upd_ne (ne_of_none e h)]
  exact e
theorem same_mut {H H' : Hp} {p : Addr} {o : HO} (e : Same H H') (h : H p = none) : Same H (upd H' p o) := fun b x q => by
  rw [upd_ne (ne_of_none q h)]
  exact e _ _ q
theorem paired_imp {α β : Type} {F F' : α → β → Prop} (h : ∀ a b, F a b → F' a b) : ∀ {xs : List α} {ys : List β}, Paired F xs ys → Paired F' xs ys
  | _, _, .nil => .nil
  | _, _, .cons a b => .cons (h _ _ a) (paired_imp h b)
theorem xnf_mono {B B' : Hp} {n : Xn} {d : Option Addr} (e : Same B B') : XnF B n d → XnF B' n d := fun h => by
  rcases h with h | ⟨d0, us, h1, h2, h3⟩
  · exact .inl h
  · exact .inr ⟨d0, us, h1, e _ _ h2, paired_imp (fun _ _ z => ⟨z.1, dq_mono e z.2⟩) h3⟩
theorem fv_mono {K : KR} {B B' : Hp} {al t : List Addr} {v : V} {r : Fv} (e : Same B B') (h : FvOk K B al v r) : FvOk K B' (al ++ t) v r := by
  cases r with
  | d x => exact dq_mono e h
  | o k =>
    obtain ⟨a, ha, hv⟩ := h
    exact ⟨a, by rw [List.getElem?_append_left (List.getElem?_eq_some_iff.mp ha).1]; exact ha, hv⟩
  | kd kvs =>
    obtain ⟨a, o, us, hv, h1, h2⟩ := h
    exact ⟨a, o, us, hv, e _ _ h1, paired_imp (fun _ _ z => ⟨z.1, dq_mono e z.2⟩) h2⟩
  | x n =>
    obtain ⟨a, d, hv, h1, h2⟩ := h
    exact ⟨a, d, hv, e _ _ h1, xnf_mono e h2⟩
theorem fv_cl {K K' : KR} {B : Hp} {al : List Addr} {v : V} {r : Fv} (hc : K.rt.cl = K'.rt.cl) (h : FvOk K B al v r) : FvOk K' B al v r := by
  cases r with
  | x n =>
    obtain ⟨a, d, hv, h1, h2⟩ := h
    exact ⟨a, d, hv, by rw [← hc]; exact h1, h2⟩
  | _ => exact h
/-- a cell's fact under a growing base, the cell itself as it was -/
theorem ct_mono {K : KR} {B B' H H' : Hp} {al t : List Addr} {a : Addr} {ct : Ct} (e : Same B B') (hh : ∀ o, H a = some o → H' a = some o) (h : CtOk K B al H a ct) : CtOk K B' (al ++ t) H' a ct := by
  cases ct with
  | dead =>
    obtain ⟨o, h1, h2⟩ := h
    exact ⟨o, hh _ h1, h2⟩
  | lst rs =>
    obtain ⟨xs, h1, h2⟩ := h
    exact ⟨xs, hh _ h1, dqall_mono e h2⟩
  | dK kvs =>
    obtain ⟨xs, h1, h2⟩ := h
    exact ⟨xs, hh _ h1, paired_imp (fun _ _ z => ⟨z.1, dq_mono e z.2⟩) h2⟩
  | dT kvs =>
    obtain ⟨xs, h1, h2⟩ := h
    exact ⟨xs, hh _ h1, paired_imp (fun _ _ z => ⟨z.1, dq_mono e z.2⟩) h2⟩
  | dN kvs =>
    obtain ⟨xs, h1, h2⟩ := h
    exact ⟨xs, hh _ h1, paired_imp (fun _ _ z => ⟨z.1, dq_mono e z.2.1, dq_mono e z.2.2⟩) h2⟩
  | dL kvs =>
    obtain ⟨o, xs, h1, h2⟩ := h
    exact ⟨o, xs, hh _ h1, paired_imp (fun _ _ z => ⟨z.1, dq_mono e z.2.1, dq_mono e z.2.2⟩) h2⟩
  | dF kvs =>
    obtain ⟨o, xs, h1, h2⟩ := h
    exact ⟨o, xs, hh _ h1, paired_imp (fun _ _ z => ⟨z.1, dq_mono e z.2⟩) h2⟩
  | ins c dj fs =>
    obtain ⟨dx, us, h0, h1, h2⟩ := h
    exact ⟨dx, us, by rw [List.getElem?_append_left (List.getElem?_eq_some_iff.mp h0).1]; exact h0, hh _ h1, paired_imp (fun _ _ z => ⟨z.1, fv_mono e z.2⟩) h2⟩
  | odx =>
    obtain ⟨x, h1⟩ := h
    exact ⟨x, hh _ h1⟩
  | lM fs =>
    obtain ⟨xs, h1, h2⟩ := h
    exact ⟨xs, hh _ h1, paired_imp (fun _ _ z => fv_mono e z) h2⟩
theorem ct_mono0 {K : KR} {B B' H H' : Hp} {al : List Addr} {a : Addr} {ct : Ct} (e : Same B B') (hh : ∀ o, H a = some o → H' a = some o) (h : CtOk K B al H a ct) : CtOk K B' al H' a ct := by
  have z := ct_mono (t := []) e hh h
  rw [List.append_nil] at z
  exact z
theorem ct_box {K : KR} {B H : Hp} {al : List Addr} {a : Addr} {ct : Ct} (h : CtOk K B al H a ct) : ∃ o, H a = some o ∧ ∀ us, o ≠ .tup us := by
  cases ct with
  | dead => exact h
  | lst rs => obtain ⟨xs, h1, _⟩ := h; exact ⟨_, h1, fun us z => nomatch z⟩
  | dK rs => obtain ⟨xs, h1, _⟩ := h; exact ⟨_, h1, fun us z => nomatch z⟩
  | dT rs => obtain ⟨xs, h1, _⟩ := h; exact ⟨_, h1, fun us z => nomatch z⟩
  | dN rs => obtain ⟨xs, h1, _⟩ := h; exact ⟨_, h1, fun us z => nomatch z⟩
  | dL rs => obtain ⟨_, xs, h1, _⟩ := h; exact ⟨_, h1, fun us z => nomatch z⟩
  | dF rs => obtain ⟨_, xs, h1, _⟩ := h; exact ⟨_, h1, fun us z => nomatch z⟩
  | ins c dj fs => obtain ⟨_, xs, _, h1, _⟩ := h; exact ⟨_, h1, fun us z => nomatch z⟩
  | odx => obtain ⟨_, h1⟩ := h; exact ⟨_, h1, fun us z => nomatch z⟩
  | lM fs => obtain ⟨xs, h1, _⟩ := h; exact ⟨_, h1, fun us z => nomatch z⟩
theorem flat_nd {ct : Ct} (h : flat ct = true) : ct ≠ .dead := fun z => by subst z; cases h
theorem ct_any {K K' : KR} {B H : Hp} {al al' : List Addr} {a : Addr} {ct : Ct} (hf : flat ct = true) (h : CtOk K B al H a ct) : CtOk K' B al' H a ct := by
  cases ct with
  | dead => cases hf
  | ins _ _ _ => cases hf
  | odx => cases hf
  | lM _ => cases hf
  | _ => exact h
theorem ct_cl {K K' : KR} {B H : Hp} {al : List Addr} {a : Addr} {ct : Ct} (hc : K.rt.cl = K'.rt.cl) (hfr : K.fr = K'.fr) (h : CtOk K B al H a ct) : CtOk K' B al H a ct := by
  cases ct with
  | ins c dj fs =>
    obtain ⟨dx, us, h0, h1, h2⟩ := h
    exact ⟨dx, us, h0, by rw [← hc]; exact h1, paired_imp (fun _ _ z => ⟨z.1, fv_cl hc z.2⟩) h2⟩
  | lM fs =>
    obtain ⟨xs, h1, h2⟩ := h
    exact ⟨xs, h1, paired_imp (fun _ _ z => fv_cl hc z) h2⟩
  | _ => exact h
theorem rv_mono {K : KR} {B B' : Hp} {al t : List Addr} {v : V} {r : R} (e : Same B B') (h : RvOk K B al v r) : RvOk K B' (al ++ t) v r := by
  cases r with
  | d x => exact dq_mono e h
  | s ns =>
    obtain ⟨a, hv, h2⟩ := h
    exact ⟨a, hv, same_l e h2⟩
  | o j =>
    obtain ⟨a, ha, hv⟩ := h
    refine ⟨a, ?_, hv⟩
    rw [List.getElem?_append_left (List.getElem?_eq_some_iff.mp ha).1]
    exact ha
  | x n =>
    obtain ⟨a, d, hv, h1, h2⟩ := h
    exact ⟨a, d, hv, e _ _ h1, xnf_mono e h2⟩
  | m ct =>
    obtain ⟨a, hv, h1, h2⟩ := h
    exact ⟨a, hv, h1, ct_mono e (fun o q => e _ _ q) h2⟩
  | l js =>
    obtain ⟨p, xs, hv, h1, h2⟩ := h
    refine ⟨p, xs, hv, e _ _ h1, ?_⟩
    clear h1 hv
    induction h2 with
    | nil => exact .nil
    | cons a b ih =>
      obtain ⟨q, hq, ev⟩ := a
      exact .cons ⟨q, by rw [List.getElem?_append_left (List.getElem?_eq_some_iff.mp hq).1]; exact hq, ev⟩ ih
  | f j ds =>
    obtain ⟨p, xs, ha, hv, h1, h2⟩ := h
    exact ⟨p, xs, by rw [List.getElem?_append_left (List.getElem?_eq_some_iff.mp ha).1]; exact ha, hv, e _ _ h1, dqall_mono e h2⟩
  | u nd ds =>
    obtain ⟨p, xs, hv, h1, h2, h3⟩ := h
    exact ⟨p, xs, hv, same_t e h1, fun z => (h2 z).elim (fun ⟨o, q, d⟩ => .inl ⟨o, e _ _ q, d⟩) .inr, dqall_mono e h3⟩
  | t tp fs =>
    obtain ⟨p, xs, hv, h1, h2⟩ := h
    refine ⟨p, xs, hv, ?_, paired_imp (fun _ _ z => fv_mono e z) h2⟩
    cases tp with
    | true => exact NdT.same e h1
    | false => exact e _ _ h1
theorem rv_mono0 {K : KR} {B B' : Hp} {al : List Addr} {v : V} {r : R} (e : Same B B') (h : RvOk K B al v r) : RvOk K B' al v r := by
  have z := rv_mono (t := []) e h
  rw [List.append_nil] at z
  exact z
section
variable {K : KR} {F : Fm} {g : G} {tm tm' : List (V × R)} {s : L2.St} {H B : Hp} {al : List Addr}
theorem Stt.temps (S : Stt K F g tm s H B al) (h : ∀ p ∈ tm', p ∈ tm) : Stt K F g tm' s H B al := { S with tm := fun p q => S.tm p (h p q) }
theorem Stt.push (S : Stt K F g tm s H B al) {v : V} {r : R} (h : RvOk K B al v r) : Stt K F g ((v, r) :: tm) s H B al :=
  { S with tm := fun p q => (List.mem_cons.mp q).elim (fun e => by rw [e]; exact h) (fun e => S.tm p e) }
theorem Stt.top (S : Stt K F g tm s H B al) {p : V × R} {t : List (V × R)} (e : tm = p :: t) : RvOk K B al p.1 p.2 := S.tm p (by rw [e]; exact List.mem_cons_self)
theorem Stt.new_out (S : Stt K F g tm s H B al) {p : Addr} (h : H p = none) : p ∉ al := fun q => by
  obtain ⟨o, e⟩ := S.lv p q
  rw [e] at h
  cases h
/-- a new shared object (the base grows) -/
theorem Stt.grow (S : Stt K F g tm s H B al) {p : Addr} {o : HO} (h : H p = none) : Stt K F g tm s (upd H p o) (upd B p o) al := by
  have hB : B p = none := S.bh.free h
  have eB : Same B (upd B p o) := same_new hB
  have eH : Same H (upd H p o) := same_new h
  have nal := S.new_out h
  refine { rb := S.rb, ro := S.ro, rp := S.rp, ot := S.ot, fb := S.fb.trans eB, bh := ?_, fo := ?_, pre := S.pre, len := S.len, nd := S.nd, lv := ?_, nb := ?_, ce := ?_, sl := ?_, tm := ?_, sln := S.sln, tx := S.tx }
  · intro b u e
    by_cases hb : b = p
    · subst hb; rw [upd_same] at e ⊢; exact e
    · rw [upd_ne hb] at e ⊢; exact S.bh _ _ e
  · intro a u e
    obtain ⟨h1, h2, h3⟩ := S.fo a u e
    have ne : a ≠ p := ne_of_none h1 h
    exact ⟨eH _ _ h1, by rw [upd_ne ne]; exact h2, h3⟩
  · intro a ha
    obtain ⟨u, e⟩ := S.lv a ha
    exact ⟨u, eH _ _ e⟩
  · intro j a ct h1 h2 h3
    have ne : a ≠ p := fun z => nal (z ▸ List.mem_of_getElem? h1)
    rw [upd_ne ne]
    exact S.nb j a ct h1 h2 h3
  · intro j a ct h1 h2
    exact ct_mono0 eB (fun u e => eH _ _ e) (S.ce j a ct h1 h2)
  · intro i r e
    obtain ⟨v, h1, h2⟩ := S.sl i r e
    exact ⟨v, h1, rv_mono0 eB h2⟩
  · intro q hq
    exact rv_mono0 eB (S.tm q hq)
/-- a new own cell -/
theorem Stt.own (S : Stt K F g tm s H B al) {p : Addr} {o : HO} {ct : Ct} (h : H p = none) (hc : CtOk K B al (upd H p o) p ct) : Stt K F { g with ce := g.ce ++ [ct] } tm s (upd H p o) B (al ++ [p]) := by
  have hB : B p = none := S.bh.free h
  have eH : Same H (upd H p o) := same_new h
  have nal := S.new_out h
  obtain ⟨t, ht⟩ := S.pre
  refine { rb := S.rb, ro := S.ro, rp := S.rp, ot := S.ot, fb := S.fb, bh := S.bh.trans eH, fo := ?_, pre := ⟨t ++ [p], by rw [ht, List.append_assoc]⟩, len := by rw [List.length_append, List.length_append, S.len]; rfl, nd := ?_, lv := ?_, nb := ?_, ce := ?_, sl := ?_, tm := ?_, sln := S.sln, tx := S.tx }
  · intro a u e
    obtain ⟨h1, h2, h3⟩ := S.fo a u e
    refine ⟨eH _ _ h1, h2, fun z => ?_⟩
    rcases List.mem_append.mp z with z | z
    · exact h3 z
    · rw [List.mem_singleton.mp z, h] at h1
      cases h1
  · refine List.nodup_append.mpr ⟨S.nd, by simp, fun a ha b hb => ?_⟩
    rw [List.mem_singleton.mp hb]
    exact fun z => nal (z ▸ ha)
  · intro a ha
    rcases List.mem_append.mp ha with z | z
    · obtain ⟨u, e⟩ := S.lv a z
      exact ⟨u, eH _ _ e⟩
    · rw [List.mem_singleton.mp z]
      exact ⟨o, upd_same⟩
  · intro j a c h1 h2 h3
    by_cases hj : j < al.length
    · rw [List.getElem?_append_left hj] at h1
      rw [List.getElem?_append_left (by rw [← S.len]; exact hj)] at h2
      exact S.nb j a c h1 h2 h3
    · rw [List.getElem?_append_right (by omega)] at h1
      have : a = p := by
        have z := List.mem_of_getElem? h1
        exact List.mem_singleton.mp z
      rw [this]; exact hB
  · intro j a c h1 h2
    by_cases hj : j < al.length
    · rw [List.getElem?_append_left hj] at h1
      rw [List.getElem?_append_left (by rw [← S.len]; exact hj)] at h2
      exact ct_mono (Same.refl B) (fun u e => eH _ _ e) (S.ce j a c h1 h2)
    · rw [List.getElem?_append_right (by omega)] at h1
      rw [List.getElem?_append_right (by rw [← S.len]; omega)] at h2
      have e1 : a = p := List.mem_singleton.mp (List.mem_of_getElem? h1)
      have e2 : c = ct := List.mem_singleton.mp (List.mem_of_getElem? h2)
      subst e1 e2
      exact ct_mono (Same.refl B) (fun u e => e) hc
  · intro i r e
    obtain ⟨v, h1, h2⟩ := S.sl i r e
    exact ⟨v, h1, rv_mono (Same.refl B) h2⟩
  · intro q hq
    exact rv_mono (Same.refl B) (S.tm q hq)
theorem Stt.own_at (S : Stt K F g tm s H B al) {p : Addr} : (al ++ [p])[g.ce.length]? = some p := by
  rw [← S.len, List.getElem?_append_right (Nat.le_refl _), Nat.sub_self]
  rfl
/-- an own cell is changed -/
theorem Stt.put (S : Stt K F g tm s H B al) {j : Nat} {a : Addr} {o : HO} {ct ct' : Ct} (ha : al[j]? = some a) (hc : g.ce[j]? = some ct) (nd : ct ≠ Ct.dead) (hk : CtOk K B al (upd H a o) a ct') : Stt K F { g with ce := g.ce.set j ct' } tm s (upd H a o) B al := by
  have hB := S.nb j a ct ha hc nd
  have ma := List.mem_of_getElem? ha
  refine { rb := S.rb, ro := S.ro, rp := S.rp, ot := S.ot, fb := S.fb, bh := same_mut S.bh hB, fo := ?_, pre := S.pre, len := by rw [List.length_set]; exact S.len, nd := S.nd, lv := ?_, nb := ?_, ce := ?_, sl := S.sl, tm := S.tm, sln := S.sln, tx := S.tx }
  · intro b u e
    obtain ⟨h1, h2, h3⟩ := S.fo b u e
    have ne : b ≠ a := fun z => h3 (z ▸ ma)
    exact ⟨by rw [upd_ne ne]; exact h1, h2, h3⟩
  · intro b hb
    by_cases e : b = a
    · rw [e]; exact ⟨o, upd_same⟩
    · rw [upd_ne e]; exact S.lv b hb
  · intro i b c h1 h2 h3
    by_cases e : i = j
    · subst e
      rw [ha] at h1
      cases h1
      exact hB
    · rw [List.getElem?_set_ne (Ne.symm e)] at h2
      exact S.nb i b c h1 h2 h3
  · intro i b c h1 h2
    by_cases e : i = j
    · subst e
      rw [ha] at h1
      cases h1
      rw [List.getElem?_set_self (List.getElem?_eq_some_iff.mp hc).1] at h2
      cases h2
      exact hk
    · rw [List.getElem?_set_ne (Ne.symm e)] at h2
      have ne : b ≠ a := fun z => by
        subst z
        exact e ((List.getElem?_inj (List.getElem?_eq_some_iff.mp h1).1 S.nd).mp (h1.trans ha.symm))
      refine ct_mono0 (Same.refl B) (fun u q => ?_) (S.ce i b c h1 h2)
      rw [upd_ne ne]; exact q
/-- a slot is set -/
theorem Stt.store (S : Stt K F g tm s H B al) {i : Nat} {v : V} {r : R} (h : RvOk K B al v r) : Stt K F { g with sl := g.sl.set i (some r) } tm (s.set i (some v)) H B al := by
  refine { S with sl := ?_, sln := by rw [List.length_set, List.length_set]; exact S.sln }
  intro k q e
  by_cases hk : i = k
  · subst hk
    by_cases hl : i < g.sl.length
    · rw [List.getElem?_set_self hl] at e
      cases e
      exact ⟨v, List.getElem?_set_self (by rw [← S.sln]; exact hl), h⟩
    · rw [List.getElem?_eq_none (by rw [List.length_set]; omega)] at e
      cases e
  · rw [List.getElem?_set_ne hk] at e
    rw [List.getElem?_set_ne hk]
    exact S.sl k q e
end
def lift (K : KR) (de : DE) : TE := fun s H Q => ∃ F g tm k B al, Stt K F g tm s H B al ∧ de g k ∧ ∀ v H' r g' B' al', k r g' → Stt K F g' ((v, r) :: tm) s H' B' al' → Q v H'
def liftT (K : KR) (dt : DT) : TT := fun s H Q => ∃ F g tm k B al, Stt K F g tm s H B al ∧ dt g k ∧ ∀ b H' g' B' al', k b g' → Stt K F g' tm s H' B' al' → Q b H'
def liftA (K : KR) (da : DA) : TA := fun s H Q => ∃ F g tm k B al, Stt K F g tm s H B al ∧ da g k ∧ ∀ vs H' rs g' B' al', k rs g' → Stt K F g' tm s H' B' al' → Paired (RvOk K B' al') vs rs → Q vs H'
structure DEndsOk (K : KR) (F : Fm) (tm : List (V × R)) (E : DEnds) (D : Ends) : Prop where
  nx : ∀ s H g B al, E.nx g → Stt K F g tm s H B al → D.nx s H
  rt : ∀ s v H r g B al, E.rt r g → Stt K F g ((v, r) :: tm) s H B al → D.rt v H
  bk : ∀ s H g B al, E.bk g → Stt K F g tm s H B al → D.bk s H
  ct : ∀ s H g B al, E.ct g → Stt K F g tm s H B al → D.ct s H
  tm0 : tm = []
def liftS (K : KR) (ds : DS) : TS := fun D s H => ∃ F g tm E B al, Stt K F g tm s H B al ∧ ds E g ∧ DEndsOk K F tm E D
abbrev PD (ρ : Root) (X : Cx) (e : Expr) (de : DE) : Prop := PE X e (lift ⟨X.K, ρ⟩ de)
abbrev PDT (ρ : Root) (X : Cx) (e : Expr) (dt : DT) : Prop := PT X e (liftT ⟨X.K, ρ⟩ dt)
abbrev PDA (ρ : Root) (X : Cx) (es : List Expr) (da : DA) : Prop := PA X es (liftA ⟨X.K, ρ⟩ da)
abbrev PDS (ρ : Root) (X : Cx) (st : Stmt) (ds : DS) : Prop := PS X st (liftS ⟨X.K, ρ⟩ ds)
abbrev PDSs (ρ : Root) (X : Cx) (st : List Stmt) (ds : DS) : Prop := PSs X st (liftS ⟨X.K, ρ⟩ ds)
section
variable {ρ : Root} {X : Cx} {e a b c : Expr} {pos : Pos}
theorem pe_imp {t t' : TE} (h : PE X e t) (i : ∀ s H Q, t' s H Q → t s H Q) : PE X e t' := ⟨fun pins s σ H Q I q => h.run pins s σ H Q I (i σ H Q q)⟩
theorem pt_imp {t t' : TT} (h : PT X e t) (i : ∀ s H Q, t' s H Q → t s H Q) : PT X e t' := ⟨fun pins s σ H Q I q => h.run pins s σ H Q I (i σ H Q q)⟩
theorem pa_imp {es : List Expr} {t t' : TA} (h : PA X es t) (i : ∀ s H Q, t' s H Q → t s H Q) : PA X es t' := ⟨fun p pins s σ H Q I q => h.run p pins s σ H Q I (i σ H Q q)⟩
theorem ps_imp {st : Stmt} {t t' : TS} (h : PS X st t) (i : ∀ D s H, t' D s H → t D s H) : PS X st t' := ⟨fun pins s σ H D I q => h.run pins s σ H D I (i D σ H q)⟩
theorem pss_imp {st : List Stmt} {t t' : TS} (h : PSs X st t) (i : ∀ D s H, t' D s H → t D s H) : PSs X st t' := ⟨fun pins s σ H D I q => h.run pins s σ H D I (i D σ H q)⟩
def dVar (i : Nat) : DE := fun g k => ∃ r, g.sl[i]? = some (some r) ∧ k r g
theorem pd_var (i : Nat) {x : Str} (hN : X.N[i]? = some x := by rfl) (hv : Vis X.env.scope x := by first | exact Or.inl rfl | exact Or.inr (Or.inl rfl) | exact Or.inr (Or.inr rfl)) (hd : (x == ("__debug__" : Str)) = false := by decide)
    (hcd : (x == ("__classdict__" : Str)) = false := by decide) : PD ρ X (.Name x pos) (dVar i) :=
  pe_imp (pe_var hN hv hd hcd) fun s H Q ⟨F, g, tm, k, B, al, S, ⟨r, hr, hk⟩, q⟩ => by
    obtain ⟨v, h1, h2⟩ := S.sl i r hr
    exact ⟨v, h1, q v H r g B al hk (S.push h2)⟩
def dC (x : PyData) : DE := fun g k => k (.d x) g
theorem ref_c {K : KR} {v : V} {x : PyData} (h : ∀ B, Dq B v x) : ∀ s H Q, lift K (dC x) s H Q → tC v s H Q :=
  fun s H Q ⟨F, g, tm, k, B, al, S, hk, q⟩ => q v H (.d x) g B al hk (S.push (h B))
theorem pd_int {i : Int} {j : Nat} : PD ρ X (.Constant (.int i) j pos) (dC (.int i)) := pe_imp pe_int (ref_c fun B => .int i)
theorem pd_bool {i : Bool} {j : Nat} : PD ρ X (.Constant (.bool i) j pos) (dC (.bool i)) := pe_imp pe_bl (ref_c fun B => .bl i)
theorem pd_none {j : Nat} : PD ρ X (.Constant .none j pos) (dC .none) := pe_imp pe_non (ref_c fun B => .non)
theorem pd_str {i : Str} {j : Nat} : PD ρ X (.Constant (.str i) j pos) (dC (.str i)) := pe_imp pe_str (ref_c fun B => .str i)
abbrev D2 := R → R → G → (R → G → Prop) → Prop
def RefOp (K : KR) (r : R2) (dr : D2) : Prop := ∀ F g tm s H B al x y r1 r2 k Q, Stt K F g tm s H B al → RvOk K B al x r1 → RvOk K B al y r2 → dr r1 r2 g k →
  (∀ v H' r g' B' al', k r g' → Stt K F g' tm s H' B' al' → RvOk K B' al' v r → Q v H') → r x y H Q
def dOp (dr : D2) (da db : DE) : DE := fun g k => da g fun r1 g1 => db g1 fun r2 g2 => dr r1 r2 g2 k
theorem ref_op {K : KR} {r : R2} {dr : D2} {da db : DE} (h : RefOp K r dr) : ∀ s H Q, lift K (dOp dr da db) s H Q → tOp r (lift K da) (lift K db) s H Q :=
  fun s H Q ⟨F, g, tm, k, B, al, S, hk, q⟩ => ⟨F, g, tm, _, B, al, S, hk, fun x H1 r1 g1 B1 al1 hk1 S1 => ⟨F, g1, (x, r1) :: tm, _, B1, al1, S1, hk1, fun y H2 r2 g2 B2 al2 hk2 S2 =>
    h F g2 tm s H2 B2 al2 x y r1 r2 k Q (S2.temps fun p hp => List.mem_cons_of_mem _ (List.mem_cons_of_mem _ hp)) (S2.tm (x, r1) (by simp)) (S2.tm (y, r2) (by simp)) hk2 fun v H' r g' B' al' hr S' rv => q v H' r g' B' al' hr (S'.push rv)⟩⟩
theorem pd_op {op : Operator} {r : R2} {dr : D2} {da db : DE} (ho : OpR X (binaryOp op) r) (h : RefOp ⟨X.K, ρ⟩ r dr) (ha : PD ρ X a da) (hb : PD ρ X b db) : PD ρ X (.BinOp a op b pos) (dOp dr da db) :=
  pe_imp (pe_op ho ha hb) (ref_op h)
theorem pd_cmp {op : CmpOp} {r : R2} {dr : D2} {da db : DE} (ho : OpR X (compareOp op) r) (hm : behindInMarks op b = false) (h : RefOp ⟨X.K, ρ⟩ r dr) (ha : PD ρ X a da) (hb : PD ρ X b db) : PD ρ X (.Compare a [op] [b] pos) (dOp dr da db) :=
  pe_imp (pe_cmpR ho ha hb hm) (ref_op h)
end
end DL
set_option Elab.async false
set_option linter.all false
set_option maxRecDepth 100000
set_option maxHeartbeats 4000000
set_option autoImplicit false
namespace DL
open PySem PySem.Spec PyProof.Rows L2
/-- a new tuple, as it lies -/
abbrev newT (vs : List Value) : Obj := { cls := .type "tuple", data := .seq vs.toArray }
/-- what is asked where a tuple is made -/
abbrev NewT (H : Hp) (xs : List V) (Q : VK) : Prop := ∀ (p : Addr) (ob : Obj), ob.dict = none → H p = none → Q (.ref p) (upd H p (.frz ob (.tup xs)))
section
variable {X : Cx} {pins : List (Addr × Obj)} {σ : L2.St} {H : Hp} {s : Shared} {xs : List V} {vs : List Value} {Q : VK}
theorem newN (I : L2.Inv X pins σ H s) (r : Vals xs vs) (hz : xs.length ≤ sizeLine) (t : Nat) : L2.Inv X pins σ (upd H s.heap.objs.size (.frz (newT vs) (.tup xs))) { s with heap := s.heap.push (newT vs), toks := t } :=
  I.laid (t' := t) (o := .frz (newT vs) (.tup xs)) (fun b u e => Heap.get?_push_of_some _ e) (Nat.le_refl _) ⟨Heap.get?_push_size s.heap rfl, hz, vs, r, IsTup.new _ _⟩
theorem ep_new (I : L2.Inv X pins σ H s) (r : Vals xs vs) (hz : xs.length ≤ sizeLine) (q : NewT H xs Q) (t : Nat) : EP X pins σ Q (.ref s.heap.objs.size) { s with heap := s.heap.push (newT vs), toks := t } :=
  ⟨.ref s.heap.objs.size, _, newN I r hz t, rfl, q _ _ rfl (I.hok.fresh (Nat.le_refl _))⟩
end
def tTupN (t : TA) : TE := fun σ H Q => t σ H fun xs H1 => xs.length ≤ sizeLine ∧ NewT H1 xs Q
theorem pe_tupN {X : Cx} {es : List Expr} {t : TA} {pos : Pos} {x1 : Nat} (h : PA X es t) : PE X (.Tuple es x1 pos) (tTupN t) := by
  refine ⟨fun pins s σ H Q I hq => wpAny_Tuple_spliced (thn (h.run pos pins s σ H _ I hq) ?_)⟩
  rintro us s1 ⟨xs, H1, I1, r, z, q⟩
  exact ⟨by rw [← r.length]; exact z, ep_new I1 r z q _⟩
theorem call_tupleN {X : Cx} : CallR X (.type "tuple") (fun xs H Q => ∃ p ys, xs = [.ref p] ∧ ((SqL X.K H p ys ∧ NewT H ys Q) ∨ (SqT X.K H p ys ∧ Q (.ref p) H))) := by
  rintro pins s σ H xs us Q I r ⟨p, ys, rfl, h⟩
  obtain ⟨u, rfl, rx⟩ := vals1 r
  obtain rfl : u = .ref p := rx
  rcases h with ⟨hq, q⟩ | ⟨hq, q⟩
  · obtain ⟨its, r', pl, hz⟩ := I.list hq
    have ln := r'.length
    refine call_tuple_list pl.isList (fun h' kp => ?_) (by simp only [List.size_toArray]; omega)
    have I1 : L2.Inv X pins σ H { s with heap := h' } := I.kept (t' := s.toks) kp
    exact ep_new I1 r' hz q s.toks
  · obtain ⟨its, r', pl, hz⟩ := I.tuple hq
    exact call_tuple_same pl ⟨.ref p, H, I, rfl, q⟩
def rSlN (K : PySem.W.Frag) (x : V) (lo hi : Option Int) (H : Hp) (Q : VK) : Prop := ∃ a xs, x = V.ref a ∧ SqT K H a xs ∧ (HT.sIx xs.length 0 lo = 0 ∧ HT.sIx xs.length xs.length hi = xs.length → Q (V.ref a) H) ∧
  (¬(HT.sIx xs.length 0 lo = 0 ∧ HT.sIx xs.length xs.length hi = xs.length) → NewT H (cutV xs lo hi) Q)
theorem sl_tupN {X : Cx} : SlR X (rSlN X.K) := by
  rintro pins s σ H x v vl vu lo hi sl Q I rx hs pl pu ⟨a, xs, rfl, hx, q1, q2⟩
  by_cases hw : HT.sIx xs.length 0 lo = 0 ∧ HT.sIx xs.length xs.length hi = xs.length
  · exact sl_tupA pins s σ H (.ref a) v vl vu lo hi sl Q I rx hs pl pu ⟨a, xs, rfl, hx, fun _ => q1 hw, fun n => absurd hw n⟩
  · obtain rfl : v = .ref a := rx
    obtain ⟨its, r, ht, hz⟩ := I.tuple hx
    have hlen : its.toArray.size = xs.length := by rw [List.size_toArray]; exact r.length.symm
    refine ⟨"tuple", "tuple.__getitem__", PySem.F.slot_tuple_getitem.lookup, ht.typeIs, HT.getItem_tuple_cut ht hs pl pu (by rw [hlen]; exact hw) ?_ (by rw [hlen]; exact hz)⟩
    rw [hlen]
    exact ep_new (t := s.toks) I ((r.drop _).take _) (Nat.le_trans (cutV_length xs lo hi) hz) (q2 hw)
def rCatN (K : PySem.W.Frag) : R2 := fun x y H Q => ∃ a b xs ys, x = V.ref a ∧ y = V.ref b ∧ SqT K H a xs ∧ SqT K H b ys ∧ xs.length + ys.length ≤ sizeLine ∧ (xs = [] → Q (V.ref b) H) ∧ (xs ≠ [] → ys = [] → Q (V.ref a) H) ∧ (xs ≠ [] → ys ≠ [] → NewT H (xs ++ ys) Q)
theorem op_catN {X : Cx} : OpR X (binaryOp .Add) (rCatN X.K) := by
  rintro pins s σ H x y v u Q I rx ry ⟨a, b, xs, ys, rfl, rfl, ha, hb, hz, q0, q1, q2⟩
  by_cases hx : xs = []
  · exact op_catA pins s σ H (.ref a) (.ref b) v u Q I rx ry ⟨a, b, xs, ys, rfl, rfl, ha, hb, hz, q0, fun n => absurd hx n, fun n => absurd hx n⟩
  · obtain rfl : v = .ref a := rx
    obtain rfl : u = .ref b := ry
    obtain ⟨its, r1, p1, _⟩ := I.tuple ha
    obtain ⟨its2, r2, p2, _⟩ := I.tuple hb
    refine HT.cat_tup p1 p2 (fun z => hx ((Vals.nil_iff r1).mp z)) (fun z => ⟨.ref a, H, I, rfl, q1 hx ((Vals.nil_iff r2).mp z)⟩) (fun z => ?_) (by rw [← r1.length, ← r2.length]; exact hz)
    exact ep_new (t := s.toks) I (r1.append r2) (by rw [List.length_append]; exact hz) (q2 hx fun w => z ((Vals.nil_iff r2).mpr w))
end DL
set_option Elab.async false
set_option linter.all false
set_option maxRecDepth 100000
set_option maxHeartbeats 4000000
set_option autoImplicit false
namespace DL
open PySem PySem.Spec PyProof.Rows L2
end DL
set_option Elab.async false
set_option linter.all false
set_option maxRecDepth 100000
set_option maxHeartbeats 4000000
set_option autoImplicit false
namespace DL
open PySem PySem.Spec PyProof.Rows L2
variable [Tx]
theorem dq_int {B : Hp} {v : V} {i : Int} (h : Dq B v (.int i)) : v = .int i := by cases h; rfl
theorem dq_bool {B : Hp} {v : V} {i : Bool} (h : Dq B v (.bool i)) : v = .bl i := by cases h; rfl
theorem dq_none {B : Hp} {v : V} (h : Dq B v .none) : v = .non := by cases h; rfl
theorem dq_str {B : Hp} {v : V} {i : Str} (h : Dq B v (.str i)) : v = .str i := by cases h; rfl
theorem dq_list {B : Hp} {v : V} {ds : List PyData} (h : Dq B v (.list ds)) : ∃ a xs, v = .ref a ∧ B a = some (.lst xs) ∧ DqAll B xs ds := by
  cases h with
  | lst h1 h2 => exact ⟨_, _, rfl, h1, h2⟩
theorem dq_tup {B : Hp} {v : V} {ds : List PyData} (h : Dq B v (.tuple ds)) : ∃ a xs, v = .ref a ∧ NdT Tx.fr B a xs ∧ DqAll B xs ds := by
  cases h with
  | tup h1 h2 => exact ⟨_, _, rfl, h1, h2⟩
theorem dqall_len {B : Hp} : ∀ {xs : List V} {ds : List PyData}, DqAll B xs ds → xs.length = ds.length
  | _, _, .nil => rfl
  | _, _, .cons _ t => by rw [List.length_cons, List.length_cons, dqall_len t]
theorem dqall_get {B : Hp} : ∀ {xs : List V} {ds : List PyData} {i : Nat} {d : PyData}, DqAll B xs ds → ds[i]? = some d → ∃ x, xs[i]? = some x ∧ Dq B x d
  | _, _, _, _, .nil, e => by simp at e
  | _, _, 0, _, .cons r _, e => by
    simp at e
    subst e
    exact ⟨_, rfl, r⟩
  | _, _, i + 1, d, .cons _ t, e => by
    obtain ⟨u, h1, h2⟩ := dqall_get (i := i) (d := d) t (by simpa using e)
    exact ⟨u, by simpa using h1, h2⟩
theorem dqall_app {B : Hp} : ∀ {xs ys : List V} {ds es : List PyData}, DqAll B xs ds → DqAll B ys es → DqAll B (xs ++ ys) (ds ++ es)
  | _, _, _, _, .nil, s => s
  | _, _, _, _, .cons r t, s => .cons r (dqall_app t s)
theorem dqall_take {B : Hp} : ∀ {xs : List V} {ds : List PyData} (n : Nat), DqAll B xs ds → DqAll B (xs.take n) (ds.take n)
  | _, _, 0, _ => .nil
  | _, _, _ + 1, .nil => .nil
  | _, _, n + 1, .cons r t => .cons r (dqall_take n t)
theorem dqall_drop {B : Hp} : ∀ {xs : List V} {ds : List PyData} (n : Nat), DqAll B xs ds → DqAll B (xs.drop n) (ds.drop n)
  | _, _, 0, r => r
  | _, _, _ + 1, .nil => .nil
  | _, _, n + 1, .cons _ t => dqall_drop n t
theorem dqall_rev {B : Hp} : ∀ {xs : List V} {ds : List PyData}, DqAll B xs ds → DqAll B xs.reverse ds.reverse
  | _, _, .nil => .nil
  | _, _, .cons r t => by
    rw [List.reverse_cons, List.reverse_cons]
    exact dqall_app (dqall_rev t) (.cons r .nil)
theorem dqall_set {B : Hp} {x : V} {d : PyData} (r : Dq B x d) : ∀ {xs : List V} {ds : List PyData} (i : Nat), DqAll B xs ds → DqAll B (xs.set i x) (ds.set i d)
  | _, _, _, .nil => .nil
  | _, _, 0, .cons _ t => .cons r t
  | _, _, i + 1, .cons q t => .cons q (dqall_set r i t)
theorem dqall_erase {B : Hp} : ∀ {xs : List V} {ds : List PyData} (i : Nat), DqAll B xs ds → DqAll B (xs.eraseIdx i) (ds.eraseIdx i)
  | _, _, _, .nil => .nil
  | _, _, 0, .cons _ t => t
  | _, _, i + 1, .cons q t => .cons q (dqall_erase i t)
theorem dqall_ints {B : Hp} : ∀ {xs : List V} {ns : List Int}, DqAll B xs (ns.map .int) → xs = ns.map V.int
  | _, [], .nil => rfl
  | _, n :: ns, .cons r t => by
    rw [dq_int r, dqall_ints t]
    rfl
theorem dqall_mkints {B : Hp} : ∀ (ns : List Int), DqAll B (ns.map V.int) (ns.map .int)
  | [] => .nil
  | n :: ns => .cons (.int n) (dqall_mkints ns)
theorem dqall_bools {B : Hp} : ∀ {xs : List V} {ns : List Bool}, DqAll B xs (ns.map .bool) → xs = ns.map V.bl
  | _, [], .nil => rfl
  | _, n :: ns, .cons r t => by
    rw [dq_bool r, dqall_bools t]
    rfl
theorem dqall_paired {K : KR} {B : Hp} {al : List Addr} : ∀ {xs : List V} {ds : List PyData}, Paired (RvOk K B al) xs (ds.map .d) → DqAll B xs ds
  | _, [], .nil => .nil
  | _, d :: ds, .cons r t => .cons r (dqall_paired t)
/-- the items of a sequence; true: a tuple -/
def seqOf (g : G) : R → Option (Bool × List PyData)
  | .d (.list ds) => some (false, ds)
  | .d (.tuple ds) => some (true, ds)
  | .s ns => some (false, ns.map .int)
  | .o j => match g.ce[j]? with
    | some (.lst ds) => some (false, ds)
    | _ => none
  | .u _ ds => some (true, ds)
  | _ => none
def SqB (K : PySem.W.Frag) (t : Bool) (H : Hp) (a : Addr) (xs : List V) : Prop := match t with
  | true => SqT K H a xs
  | false => SqL K H a xs
section
variable {K : KR} {F : Fm} {g : G} {tm : List (V × R)} {s : L2.St} {H B : Hp} {al : List Addr}
theorem Stt.ndt (S : Stt K F g tm s H B al) {a : Addr} {xs : List V} (h : NdT Tx.fr B a xs) : NdT K.fr H a xs := by rw [S.tx]; exact h.same S.bh
theorem Stt.nt (S : Stt K F g tm s H B al) {a : Addr} {xs : List V} (h : NdT Tx.fr B a xs) : SqT K.fr H a xs := (S.ndt h).sq
theorem Stt.seq (S : Stt K F g tm s H B al) {v : V} {r : R} {t : Bool} {ds : List PyData} (hv : RvOk K B al v r) (h : seqOf g r = some (t, ds)) : ∃ a xs, v = .ref a ∧ SqB K.fr t H a xs ∧ DqAll B xs ds := by
  cases r with
  | d x =>
    cases x with
    | list es =>
      have e : (false, es) = (t, ds) := Option.some.inj h
      cases e
      obtain ⟨a, xs, e1, e2, e3⟩ := dq_list hv
      exact ⟨a, xs, e1, .inl (.inl (S.bh _ _ e2)), e3⟩
    | tuple es =>
      have e : (true, es) = (t, ds) := Option.some.inj h
      cases e
      obtain ⟨a, xs, e1, e2, e3⟩ := dq_tup hv
      exact ⟨a, xs, e1, S.nt e2, e3⟩
    | _ => cases h
  | x n => cases h
  | m ct => cases h
  | l js => cases h
  | f j ds => cases h
  | t _ _ => cases h
  | u nd es =>
    have e : (true, es) = (t, ds) := Option.some.inj h
    cases e
    obtain ⟨a, xs, e1, e2, _, e3⟩ := hv
    exact ⟨a, xs, e1, same_t S.bh e2, e3⟩
  | s ns =>
    have e : (false, ns.map PyData.int) = (t, ds) := Option.some.inj h
    cases e
    obtain ⟨a, e1, e2⟩ := hv
    exact ⟨a, ns.map V.int, e1, same_l S.bh e2, dqall_mkints ns⟩
  | o j =>
    obtain ⟨a, e1, e2⟩ := hv
    cases hc : g.ce[j]? with
    | none =>
      have h' : (match g.ce[j]? with | some (.lst ds) => some (false, ds) | _ => none) = some (t, ds) := h
      rw [hc] at h'
      cases h'
    | some ct =>
      have h' : (match g.ce[j]? with | some (.lst ds) => some (false, ds) | _ => none) = some (t, ds) := h
      rw [hc] at h'
      cases ct with
      | lst es =>
        cases h'
        obtain ⟨xs, q1, q2⟩ := S.ce j a _ e1 hc
        exact ⟨a, xs, e2, .inl (.inl q1), q2⟩
      | dead => cases h'
      | dK kvs => cases h'
      | dT kvs => cases h'
      | dN kvs => cases h'
      | dL kvs => cases h'
      | dF kvs => cases h'
      | ins _ _ _ => cases h'
      | odx => cases h'
      | lM _ => cases h'
/-- an own list, a shared list: not the script -/
def isMade : R → Bool
  | .s _ => false
  | _ => true
theorem Stt.seqM (S : Stt K F g tm s H B al) {v : V} {r : R} {ds : List PyData} (hv : RvOk K B al v r) (h : seqOf g r = some (false, ds)) (hm : isMade r = true) : ∃ a xs, v = .ref a ∧ H a = some (.lst xs) ∧ DqAll B xs ds := by
  cases r with
  | d x =>
    cases x with
    | list es =>
      have e : (false, es) = (false, ds) := Option.some.inj h
      cases e
      obtain ⟨a, xs, e1, e2, e3⟩ := dq_list hv
      exact ⟨a, xs, e1, S.bh _ _ e2, e3⟩
    | _ => cases h
  | x n => cases h
  | m ct => cases h
  | l js => cases h
  | f j ds => cases h
  | u nd es => cases h
  | t _ _ => cases h
  | s ns => cases hm
  | o j =>
    obtain ⟨a, e1, e2⟩ := hv
    cases hc : g.ce[j]? with
    | none =>
      have h' : (match g.ce[j]? with | some (.lst ds) => some (false, ds) | _ => none) = some (false, ds) := h
      rw [hc] at h'
      cases h'
    | some ct =>
      have h' : (match g.ce[j]? with | some (.lst ds) => some (false, ds) | _ => none) = some (false, ds) := h
      rw [hc] at h'
      cases ct with
      | lst es =>
        cases h'
        obtain ⟨xs, q1, q2⟩ := S.ce j a _ e1 hc
        exact ⟨a, xs, e2, q1, q2⟩
      | dead => cases h'
      | dK kvs => cases h'
      | dT kvs => cases h'
      | dN kvs => cases h'
      | dL kvs => cases h'
      | dF kvs => cases h'
      | ins _ _ _ => cases h'
      | odx => cases h'
      | lM _ => cases h'
end
theorem SqB.or {K : KR} {t : Bool} {H : Hp} {a : Addr} {xs : List V} (h : SqB K.fr t H a xs) : SqL K.fr H a xs ∨ SqT K.fr H a xs := by
  cases t with
  | true => exact .inr h
  | false => exact .inl h
section
variable {ρ : Root} {X : Cx} {e a b c : Expr} {es : List Expr} {pos : Pos}
def dNil : DA := fun g k => k [] g
def dCons (de : DE) (da : DA) : DA := fun g k => de g fun r g1 => da g1 fun rs g2 => k (r :: rs) g2
theorem pda_nil : PDA ρ X [] dNil := pa_imp pa_nil fun s H Q ⟨F, g, tm, k, B, al, S, hk, q⟩ => q [] H [] g B al hk S .nil
theorem pda_cons {de : DE} {da : DA} (ha : PD ρ X e de) (hr : PDA ρ X es da) (hs : starEach (e :: es) X.env = (false, eval e X.env) :: starEach es X.env := by rfl) : PDA ρ X (e :: es) (dCons de da) :=
  pa_imp (pa_cons ha hr hs) fun s H Q ⟨F, g, tm, k, B, al, S, hk, q⟩ => ⟨F, g, tm, _, B, al, S, hk, fun x H1 r1 g1 B1 al1 hk1 S1 => ⟨F, g1, (x, r1) :: tm, _, B1, al1, S1, hk1, fun vs H2 rs g2 B2 al2 hk2 S2 pr =>
    q (x :: vs) H2 (r1 :: rs) g2 B2 al2 hk2 (S2.temps fun p hp => List.mem_cons_of_mem _ hp) (.cons (S2.tm (x, r1) List.mem_cons_self) pr)⟩⟩
abbrev DCl := List R → G → (R → G → Prop) → Prop
def RefC (K : KR) (r : List V → Hp → VK → Prop) (dr : DCl) : Prop := ∀ F g tm s H B al vs rs k Q, Stt K F g tm s H B al → Paired (RvOk K B al) vs rs → dr rs g k →
  (∀ v H' r g' B' al', k r g' → Stt K F g' tm s H' B' al' → RvOk K B' al' v r → Q v H') → r vs H Q
def dCall (dr : DCl) (da : DA) : DE := fun g k => da g fun rs g1 => dr rs g1 k
theorem ref_cb {K : KR} {r : List V → Hp → VK → Prop} {dr : DCl} {da : DA} (h : RefC K r dr) : ∀ s H Q, lift K (dCall dr da) s H Q → tCB r (liftA K da) s H Q :=
  fun s H Q ⟨F, g, tm, k, B, al, S, hk, q⟩ => ⟨F, g, tm, _, B, al, S, hk, fun vs H1 rs g1 B1 al1 hk1 S1 pr => h F g1 tm s H1 B1 al1 vs rs k Q S1 pr hk1 fun v H' r g' B' al' hr S' rv => q v H' r g' B' al' hr (S'.push rv)⟩
theorem pd_callB {x : Str} {p : Pos} {id : String} {r : List V → Hp → VK → Prop} {dr : DCl} {da : DA} (hc : CallR X (.builtin id) r) (h : RefC ⟨X.K, ρ⟩ r dr) (hg : Gl X x) (hm : X.mg x = none) (hv : bootBuiltins x = some (.builtin id)) (ha : PDA ρ X (e :: es) da) (hn : x ≠ "__name__" := by decide)
    (hdb : (x == ("__debug__" : Str)) = false := by decide) (he : starEach (e :: es) X.env = (false, eval e X.env) :: starEach es X.env := by rfl) (hpl : (backTo pos (starEach es X.env)).any (·.1) = false := by rfl) : PD ρ X (.Call (.Name x p) (e :: es) [] pos) (dCall dr da) :=
  pe_imp (pe_callB hc hg hm hv ha hn hdb he hpl) (ref_cb h)
theorem pd_callTy {x : Str} {p : Pos} {id : String} {r : List V → Hp → VK → Prop} {dr : DCl} {da : DA} (hc : CallR X (.type id) r) (h : RefC ⟨X.K, ρ⟩ r dr) (hg : Gl X x) (hm : X.mg x = none) (hv : bootBuiltins x = some (.type id)) (ha : PDA ρ X (e :: es) da) (hn : x ≠ "__name__" := by decide)
    (hdb : (x == ("__debug__" : Str)) = false := by decide) (he : starEach (e :: es) X.env = (false, eval e X.env) :: starEach es X.env := by rfl) (hpl : (backTo pos (starEach es X.env)).any (·.1) = false := by rfl) : PD ρ X (.Call (.Name x p) (e :: es) [] pos) (dCall dr da) :=
  pe_imp (pe_callTy hc hg hm hv ha hn hdb he hpl) (ref_cb h)
theorem pair1 {K : KR} {B : Hp} {al : List Addr} {vs : List V} {r : R} (h : Paired (RvOk K B al) vs [r]) : ∃ v, vs = [v] ∧ RvOk K B al v r := by
  cases h with
  | cons a b => cases b; exact ⟨_, rfl, a⟩
theorem pair2 {K : KR} {B : Hp} {al : List Addr} {vs : List V} {r r' : R} (h : Paired (RvOk K B al) vs [r, r']) : ∃ v w, vs = [v, w] ∧ RvOk K B al v r ∧ RvOk K B al w r' := by
  cases h with
  | cons a b =>
    obtain ⟨w, e, h⟩ := pair1 b
    subst e
    exact ⟨_, _, rfl, a, h⟩
/-- len -/
def cLen : DCl := fun rs g k => ∃ r t ds, rs = [r] ∧ seqOf g r = some (t, ds) ∧ k (.d (.int ds.length)) g
theorem ref_len {K : KR} : RefC K (fun xs H Q => ∃ p ys, xs = [.ref p] ∧ (SqL K.fr H p ys ∨ SqT K.fr H p ys) ∧ Q (.int ys.length) H) cLen := by
  rintro F g tm s H B al vs rs k Q S pr ⟨r, t, ds, rfl, hs, hk⟩ q
  obtain ⟨v, rfl, hv⟩ := pair1 pr
  obtain ⟨a, xs, rfl, h1, h2⟩ := S.seq hv hs
  refine ⟨a, xs, rfl, h1.or, ?_⟩
  rw [dqall_len h2]
  exact q _ H _ g B al hk S (.int _)
/-- abs, min, max, int -/
def cAbs : DCl := fun rs g k => ∃ i, rs = [.d (.int i)] ∧ k (.d (.int (if i < 0 then -i else i))) g
theorem ref_abs {K : KR} : RefC K (fun xs H Q => ∃ i, xs = [.int i] ∧ Q (.int (if i < 0 then -i else i)) H) cAbs := by
  rintro F g tm s H B al vs rs k Q S pr ⟨i, rfl, hk⟩ q
  obtain ⟨v, rfl, hv⟩ := pair1 pr
  cases dq_int hv
  exact ⟨i, rfl, q _ H _ g B al hk S (.int _)⟩
def cMax2 : DCl := fun rs g k => ∃ i j, rs = [.d (.int i), .d (.int j)] ∧ k (.d (.int (if j > i then j else i))) g
theorem ref_max2 {K : KR} : RefC K (fun xs H Q => ∃ i j, xs = [.int i, .int j] ∧ Q (.int (if j > i then j else i)) H) cMax2 := by
  rintro F g tm s H B al vs rs k Q S pr ⟨i, j, rfl, hk⟩ q
  obtain ⟨v, w, rfl, hv, hw⟩ := pair2 pr
  cases dq_int hv
  cases dq_int hw
  exact ⟨i, j, rfl, q _ H _ g B al hk S (.int _)⟩
def cMin2 : DCl := fun rs g k => ∃ i j, rs = [.d (.int i), .d (.int j)] ∧ k (.d (.int (if j < i then j else i))) g
theorem ref_min2 {K : KR} : RefC K (fun xs H Q => ∃ i j, xs = [.int i, .int j] ∧ Q (.int (if j < i then j else i)) H) cMin2 := by
  rintro F g tm s H B al vs rs k Q S pr ⟨i, j, rfl, hk⟩ q
  obtain ⟨v, w, rfl, hv, hw⟩ := pair2 pr
  cases dq_int hv
  cases dq_int hw
  exact ⟨i, j, rfl, q _ H _ g B al hk S (.int _)⟩
def cIntB : DCl := fun rs g k => ∃ b, rs = [.d (.bool b)] ∧ k (.d (.int (if b then 1 else 0))) g
theorem ref_intB {K : KR} : RefC K (fun xs H Q => (∃ i, xs = [.int i] ∧ Q (.int i) H) ∨ ∃ k, xs = [.bl k] ∧ Q (.int (if k then 1 else 0)) H) cIntB := by
  rintro F g tm s H B al vs rs k Q S pr ⟨i, rfl, hk⟩ q
  obtain ⟨v, rfl, hv⟩ := pair1 pr
  cases dq_bool hv
  exact .inr ⟨i, rfl, q _ H _ g B al hk S (.int _)⟩
/-- a new shared list, a new shared tuple -/
theorem new_l {K : KR} {F : Fm} {g : G} {tm : List (V × R)} {s : L2.St} {H B : Hp} {al : List Addr} {p : Addr} {xs : List V} {ds : List PyData} {Q : VK} {k : R → G → Prop} (S : Stt K F g tm s H B al) (hp : H p = none) (hx : DqAll B xs ds) (hk : k (.d (.list ds)) g)
    (q : ∀ v H' r g' B' al', k r g' → Stt K F g' tm s H' B' al' → RvOk K B' al' v r → Q v H') : Q (.ref p) (upd H p (.lst xs)) :=
  q _ _ _ g _ al hk (S.grow hp) (Dq.lst upd_same (dqall_mono (same_new (S.bh.free hp)) hx))
theorem new_t {K : KR} {F : Fm} {g : G} {tm : List (V × R)} {s : L2.St} {H B : Hp} {al : List Addr} {p : Addr} {xs : List V} {ds : List PyData} {Q : VK} {k : R → G → Prop} (S : Stt K F g tm s H B al) (hp : H p = none) (hx : DqAll B xs ds) (hk : k (.d (.tuple ds)) g)
    (q : ∀ v H' r g' B' al', k r g' → Stt K F g' tm s H' B' al' → RvOk K B' al' v r → Q v H') {ob : Obj} (hn : ob.dict = none) : Q (.ref p) (upd H p (.frz ob (.tup xs))) :=
  q _ _ _ g _ al hk (S.grow hp) (Dq.tup (.inl ⟨ob, upd_same, hn⟩) (dqall_mono (same_new (S.bh.free hp)) hx))
theorem new_o {K : KR} {F : Fm} {g : G} {tm : List (V × R)} {s : L2.St} {H B : Hp} {al : List Addr} {p : Addr} {xs : List V} {ds : List PyData} {Q : VK} {k : R → G → Prop} (S : Stt K F g tm s H B al) (hp : H p = none) (hx : DqAll B xs ds) (hk : k (.o g.ce.length) { g with ce := g.ce ++ [.lst ds] })
    (q : ∀ v H' r g' B' al', k r g' → Stt K F g' tm s H' B' al' → RvOk K B' al' v r → Q v H') : Q (.ref p) (upd H p (.lst xs)) :=
  q _ _ _ _ _ _ hk (S.own hp ⟨xs, upd_same, hx⟩) ⟨p, S.own_at, rfl⟩
/-- list(x): shared; own -/
def cList : DCl := fun rs g k => ∃ r t ds, rs = [r] ∧ seqOf g r = some (t, ds) ∧ k (.d (.list ds)) g
def cListO : DCl := fun rs g k => ∃ r t ds, rs = [r] ∧ seqOf g r = some (t, ds) ∧ k (.o g.ce.length) { g with ce := g.ce ++ [.lst ds] }
theorem ref_list {K : KR} : RefC K (fun xs H Q => ∃ p ys, xs = [.ref p] ∧ (SqL K.fr H p ys ∨ SqT K.fr H p ys) ∧ ∀ l, H l = none → Q (.ref l) (upd H l (.lst ys))) cList := by
  rintro F g tm s H B al vs rs k Q S pr ⟨r, t, ds, rfl, hs, hk⟩ q
  obtain ⟨v, rfl, hv⟩ := pair1 pr
  obtain ⟨a, xs, rfl, h1, h2⟩ := S.seq hv hs
  exact ⟨a, xs, rfl, h1.or, fun l hl => new_l S hl h2 hk q⟩
theorem ref_listO {K : KR} : RefC K (fun xs H Q => ∃ p ys, xs = [.ref p] ∧ (SqL K.fr H p ys ∨ SqT K.fr H p ys) ∧ ∀ l, H l = none → Q (.ref l) (upd H l (.lst ys))) cListO := by
  rintro F g tm s H B al vs rs k Q S pr ⟨r, t, ds, rfl, hs, hk⟩ q
  obtain ⟨v, rfl, hv⟩ := pair1 pr
  obtain ⟨a, xs, rfl, h1, h2⟩ := S.seq hv hs
  exact ⟨a, xs, rfl, h1.or, fun l hl => new_o S hl h2 hk q⟩
/-- tuple(x) -/
def tupR (r : R) (ds : List PyData) : R := match r with
  | .u nd es => .u nd es
  | _ => .d (.tuple ds)
def cTuple : DCl := fun rs g k => ∃ r t ds, rs = [r] ∧ seqOf g r = some (t, ds) ∧ k (tupR r ds) g
theorem tupR_l {g : G} {r : R} {ds : List PyData} (h : seqOf g r = some (false, ds)) : tupR r ds = .d (.tuple ds) := by
  cases r with
  | u nd es => cases h
  | _ => rfl
theorem seq_tup {g : G} {r : R} {ds : List PyData} (h : seqOf g r = some (true, ds)) : r = .d (.tuple ds) ∨ ∃ nd, r = .u nd ds := by
  cases r with
  | d x =>
    cases x with
    | list es => cases h
    | tuple es =>
      have e : (true, es) = (true, ds) := Option.some.inj h
      cases e
      exact .inl rfl
    | _ => cases h
  | x n => cases h
  | m ct => cases h
  | l js => cases h
  | f j ds => cases h
  | t _ _ => cases h
  | u nd es =>
    have e : (true, es) = (true, ds) := Option.some.inj h
    cases e
    exact .inr ⟨nd, rfl⟩
  | s ns => cases h
  | o j =>
    have h' : (match g.ce[j]? with | some (.lst ds) => some (false, ds) | _ => none) = some (true, ds) := h
    split at h'
    · cases h'
    · cases h'
theorem ref_tuple {K : KR} : RefC K (fun xs H Q => ∃ p ys, xs = [.ref p] ∧ ((SqL K.fr H p ys ∧ NewT H ys Q) ∨ (SqT K.fr H p ys ∧ Q (.ref p) H))) cTuple := by
  rintro F g tm s H B al vs rs k Q S pr ⟨r, t, ds, rfl, hs, hk⟩ q
  obtain ⟨v, rfl, hv⟩ := pair1 pr
  obtain ⟨a, xs, rfl, h1, h2⟩ := S.seq hv hs
  cases t with
  | false =>
    rw [tupR_l hs] at hk
    exact ⟨a, xs, rfl, .inl ⟨h1, fun l ob hn hl => new_t S hl h2 hk q hn⟩⟩
  | true =>
    rcases seq_tup hs with e | ⟨nd, e⟩
    · subst e
      exact ⟨a, xs, rfl, .inr ⟨h1, q _ H _ g B al hk S hv⟩⟩
    · subst e
      exact ⟨a, xs, rfl, .inr ⟨h1, q _ H _ g B al hk S hv⟩⟩
def dTup (da : DA) : DE := fun g k => da g fun rs g1 => ∃ ds, rs = ds.map R.d ∧ ds.length ≤ 100000 ∧ k (.d (.tuple ds)) g1
def dLst (da : DA) : DE := fun g k => da g fun rs g1 => ∃ ds, rs = ds.map R.d ∧ ds.length ≤ 100000 ∧ k (.d (.list ds)) g1
def dLstO (da : DA) : DE := fun g k => da g fun rs g1 => ∃ ds, rs = ds.map R.d ∧ ds.length ≤ 100000 ∧ k (.o g1.ce.length) { g1 with ce := g1.ce ++ [.lst ds] }
theorem sz_ok {n : Nat} (h : n ≤ 100000) : n ≤ sizeLine := Nat.le_trans h (by decide)
theorem sz_lt {n : Nat} (h : n < 100000) : n < sizeLine := Nat.lt_of_lt_of_le h (by decide)
theorem pd_tup {x1 : Nat} {da : DA} (h : PDA ρ X es da) : PD ρ X (.Tuple es x1 pos) (dTup da) := pe_imp (pe_tupN h) fun s H Q ⟨F, g, tm, k, B, al, S, hk, q⟩ =>
  ⟨F, g, tm, _, B, al, S, hk, fun vs H1 rs g1 B1 al1 ⟨ds, e, hz, hk1⟩ S1 pr => by
    subst e
    have hd := dqall_paired pr
    refine ⟨by rw [dqall_len hd]; exact sz_ok hz, fun p ob hn hp => ?_⟩
    exact new_t S1 hp hd hk1 (fun v H' r g' B' al' hr S' rv => q v H' r g' B' al' hr (S'.push rv)) hn⟩
theorem pd_lst {da : DA} (h : PDA ρ X es da) : PD ρ X (.List es pos) (dLst da) := pe_imp (pe_lst h) fun s H Q ⟨F, g, tm, k, B, al, S, hk, q⟩ =>
  ⟨F, g, tm, _, B, al, S, hk, fun vs H1 rs g1 B1 al1 ⟨ds, e, hz, hk1⟩ S1 pr => by
    subst e
    have hd := dqall_paired pr
    refine ⟨by rw [dqall_len hd]; exact sz_ok hz, fun p hp => ?_⟩
    exact new_l S1 hp hd hk1 fun v H' r g' B' al' hr S' rv => q v H' r g' B' al' hr (S'.push rv)⟩
theorem pd_lstO {da : DA} (h : PDA ρ X es da) : PD ρ X (.List es pos) (dLstO da) := pe_imp (pe_lst h) fun s H Q ⟨F, g, tm, k, B, al, S, hk, q⟩ =>
  ⟨F, g, tm, _, B, al, S, hk, fun vs H1 rs g1 B1 al1 ⟨ds, e, hz, hk1⟩ S1 pr => by
    subst e
    have hd := dqall_paired pr
    refine ⟨by rw [dqall_len hd]; exact sz_ok hz, fun p hp => ?_⟩
    exact new_o S1 hp hd hk1 fun v H' r g' B' al' hr S' rv => q v H' r g' B' al' hr (S'.push rv)⟩
end
end DL
set_option Elab.async false
set_option linter.all false
set_option maxRecDepth 100000
set_option maxHeartbeats 4000000
set_option autoImplicit false
namespace DL
open PySem PySem.Spec PyProof.Rows L2
variable [Tx]
section
variable {ρ : Root} {X : Cx} {e a b c : Expr} {es : List Expr} {pos : Pos}
def oI (C : Int → Int → Prop) (f : Int → Int → PyData) : D2 := fun r1 r2 g k => ∃ i j, r1 = .d (.int i) ∧ r2 = .d (.int j) ∧ C i j ∧ k (.d (f i j)) g
def oI0 (f : Int → Int → PyData) : D2 := fun r1 r2 g k => ∃ i j, r1 = .d (.int i) ∧ r2 = .d (.int j) ∧ k (.d (f i j)) g
theorem ref_I {K : KR} {C : Int → Int → Prop} {f : Int → Int → PyData} {h : Int → Int → V} (hd : ∀ B i j, Dq B (h i j) (f i j)) : RefOp K (rI C h) (oI C f) := by
  rintro F g tm s H B al x y r1 r2 k Q S hx hy ⟨i, j, rfl, rfl, hc, hk⟩ q
  cases dq_int hx
  cases dq_int hy
  exact ⟨i, j, rfl, rfl, hc, q _ H _ g B al hk S (hd _ _ _)⟩
theorem ref_I0 {K : KR} {f : Int → Int → PyData} {h : Int → Int → V} (hd : ∀ B i j, Dq B (h i j) (f i j)) : RefOp K (rI0 h) (oI0 f) := by
  rintro F g tm s H B al x y r1 r2 k Q S hx hy ⟨i, j, rfl, rfl, hk⟩ q
  cases dq_int hx
  cases dq_int hy
  exact ⟨i, j, rfl, rfl, q _ H _ g B al hk S (hd _ _ _)⟩
abbrev oAdd : D2 := oI0 fun i j => .int (i + j)
abbrev oSub : D2 := oI0 fun i j => .int (i - j)
abbrev oMul : D2 := oI CMul fun i j => .int (i * j)
abbrev oMod : D2 := oI (fun _ j => 0 < j) fun i j => .int (i % j)
abbrev oDiv : D2 := oI CDivW fun i j => .int (i / j)
abbrev oPow : D2 := oI CPow fun i j => .int (i ^ j.toNat)
abbrev oLt : D2 := oI0 fun i j => .bool (decide (i < j))
abbrev oLe : D2 := oI0 fun i j => .bool (decide (i ≤ j))
abbrev oGt : D2 := oI0 fun i j => .bool (decide (j < i))
abbrev oGe : D2 := oI0 fun i j => .bool (decide (j ≤ i))
theorem pd_sub {da db : DE} (ha : PD ρ X a da) (hb : PD ρ X b db) : PD ρ X (.BinOp a .Sub b pos) (dOp oSub da db) := pd_op op_sub (ref_I0 fun _ _ _ => .int _) ha hb
theorem pd_mul {da db : DE} (ha : PD ρ X a da) (hb : PD ρ X b db) : PD ρ X (.BinOp a .Mult b pos) (dOp oMul da db) := pd_op op_mul (ref_I fun _ _ _ => .int _) ha hb
theorem pd_mod {da db : DE} (ha : PD ρ X a da) (hb : PD ρ X b db) : PD ρ X (.BinOp a .Mod b pos) (dOp oMod da db) := pd_op op_mod (ref_I fun _ _ _ => .int _) ha hb
theorem pd_div {da db : DE} (ha : PD ρ X a da) (hb : PD ρ X b db) : PD ρ X (.BinOp a .FloorDiv b pos) (dOp oDiv da db) := pd_op op_fdivW (ref_I fun _ _ _ => .int _) ha hb
theorem pd_pow {da db : DE} (ha : PD ρ X a da) (hb : PD ρ X b db) : PD ρ X (.BinOp a .Pow b pos) (dOp oPow da db) := pd_op op_pow (ref_I fun _ _ _ => .int _) ha hb
theorem pd_lt {da db : DE} (ha : PD ρ X a da) (hb : PD ρ X b db) : PD ρ X (.Compare a [.Lt] [b] pos) (dOp oLt da db) := pd_cmp op_lt (nomark _) (ref_I0 fun _ _ _ => .bl _) ha hb
theorem pd_ge {da db : DE} (ha : PD ρ X a da) (hb : PD ρ X b db) : PD ρ X (.Compare a [.GtE] [b] pos) (dOp oGe da db) := pd_cmp op_ge (nomark _) (ref_I0 fun _ _ _ => .bl _) ha hb
def dNeg (da : DE) : DE := fun g k => da g fun r g1 => ∃ i, r = .d (.int i) ∧ k (.d (.int (-i))) g1
theorem pd_neg {da : DE} (ha : PD ρ X a da) : PD ρ X (.UnaryOp .USub a pos) (dNeg da) := pe_imp (pe_un un_neg ha) fun s H Q ⟨F, g, tm, k, B, al, S, hk, q⟩ =>
  ⟨F, g, tm, _, B, al, S, hk, fun v H1 r g1 B1 al1 ⟨i, e, hk1⟩ S1 => by
    subst e
    cases dq_int (S1.top rfl)
    exact ⟨i, rfl, q _ H1 _ g1 B1 al1 hk1 ((S1.temps fun p hp => List.mem_cons_of_mem _ hp).push (Dq.int _))⟩⟩
/-- the data that a value is -/
def datOf (g : G) : R → Option PyData
  | .d x => some x
  | .o j => match g.ce[j]? with
    | some (.lst ds) => some (.list ds)
    | _ => none
  | .u _ ds => some (.tuple ds)
  | _ => none
theorem Stt.dat {K : KR} {F : Fm} {g : G} {tm : List (V × R)} {s : L2.St} {H B : Hp} {al : List Addr} (S : Stt K F g tm s H B al) {v : V} {r : R} {x : PyData} (hv : RvOk K B al v r) (h : datOf g r = some x) : Dp K.fr H v x := by
  cases r with
  | d y => cases h; exact dq_dp S.tx (dq_mono S.bh hv)
  | x n => cases h
  | m ct => cases h
  | l js => cases h
  | t _ _ => cases h
  | f j ds => cases h
  | u nd ds =>
    cases h
    obtain ⟨a, xs, rfl, e2, _, e3⟩ := hv
    exact .tup (same_t S.bh e2) (dqall_dp S.tx (dqall_mono S.bh e3))
  | s ns => cases h
  | o j =>
    obtain ⟨a, e1, e2⟩ := hv
    subst e2
    have h' : (match g.ce[j]? with | some (.lst ds) => some (PyData.list ds) | _ => none) = some x := h
    cases hc : g.ce[j]? with
    | none => rw [hc] at h'; cases h'
    | some ct =>
      rw [hc] at h'
      cases ct with
      | lst es =>
        cases h'
        obtain ⟨xs, q1, q2⟩ := S.ce j a _ e1 hc
        exact .lst (.inl (.inl q1)) (dqall_dp S.tx (dqall_mono S.bh q2))
      | dead => cases h'
      | dK kvs => cases h'
      | dT kvs => cases h'
      | dN kvs => cases h'
      | dL kvs => cases h'
      | dF kvs => cases h'
      | ins _ _ _ => cases h'
      | odx => cases h'
      | lM _ => cases h'
def oEq : D2 := fun r1 r2 g k => ∃ x y, datOf g r1 = some x ∧ datOf g r2 = some y ∧ SeqAt.shaped x = true ∧ SeqAt.shaped y = true ∧ k (.d (.bool (PyData.eqv x y))) g
def oNe : D2 := fun r1 r2 g k => ∃ x y, datOf g r1 = some x ∧ datOf g r2 = some y ∧ SeqAt.shaped x = true ∧ SeqAt.shaped y = true ∧ k (.d (.bool (!PyData.eqv x y))) g
theorem pd_eq {da db : DE} (hu : X.A.units + 64 < cLine) (ha : PD ρ X a da) (hb : PD ρ X b db) : PD ρ X (.Compare a [.Eq] [b] pos) (dOp oEq da db) := pd_cmp (op_eqD hu) (nomark _) (by
  rintro F g tm s H B al x y r1 r2 k Q S hx hy ⟨dx, dy, e1, e2, s1, s2, hk⟩ q
  exact ⟨dx, dy, S.dat hx e1, S.dat hy e2, s1, s2, q _ H _ g B al hk S (Dq.bl _)⟩) ha hb
def isN : PyData → Bool
  | .none => true
  | _ => false
theorem dq_isN {B : Hp} {v : V} {x : PyData} (h : Dq B v x) : decide (v = .non) = isN x := by
  cases h <;> simp [isN]
theorem at_len {α β : Type} {xs : List α} {ys : List β} {i : Int} {y : β} (hl : xs.length = ys.length) (h : atI ys i = some y) : ∃ j : Nat, ixN xs.length i = some j ∧ ys[j]? = some y := by
  unfold atI at h
  rw [hl]
  cases e : ixN ys.length i with
  | none => rw [e] at h; cases h
  | some j => rw [e] at h; exact ⟨j, rfl, h⟩
theorem dqall_at {B : Hp} {xs : List V} {ds : List PyData} {i : Int} {d : PyData} (r : DqAll B xs ds) (h : atI ds i = some d) : ∃ x, atI xs i = some x ∧ Dq B x d := by
  obtain ⟨j, e1, e2⟩ := at_len (dqall_len r) h
  obtain ⟨x, h1, h2⟩ := dqall_get r e2
  refine ⟨x, ?_, h2⟩
  unfold atI
  rw [e1]
  exact h1
def oIx : D2 := fun r1 r2 g k => ∃ t ds i x, seqOf g r1 = some (t, ds) ∧ r2 = .d (.int i) ∧ atI ds i = some x ∧ k (.d x) g
theorem ref_ix {K : KR} : RefOp K (fun x y H Q => rIxL K.fr x y H Q ∨ rIxT K.fr x y H Q) oIx := by
  rintro F g tm s H B al x y r1 r2 k Q S hx hy ⟨t, ds, i, d, e1, rfl, e2, hk⟩ q
  cases dq_int hy
  obtain ⟨a, xs, rfl, h1, h2⟩ := S.seq hx e1
  obtain ⟨v, hv, hd⟩ := dqall_at h2 e2
  cases t with
  | false => exact .inl ⟨a, xs, i, v, rfl, rfl, h1, hv, q _ H _ g B al hk S hd⟩
  | true => exact .inr ⟨a, xs, i, v, rfl, rfl, h1, hv, q _ H _ g B al hk S hd⟩
theorem pd_ix {da db : DE} (ha : PD ρ X a da) (hb : PD ρ X b db) (hs : PlainIx b := by intro _ _; rfl) : PD ρ X (.Subscript a b pos) (dOp oIx da db) :=
  pe_imp (pe_ix (IxR.or ix_list ix_tup) ha hb hs) (ref_op ref_ix)
/-- the items of a slice -/
def cut {α : Type} (xs : List α) (lo hi : Option Int) : List α := (xs.drop (HT.sIx xs.length 0 lo)).take (HT.sIx xs.length xs.length hi - HT.sIx xs.length 0 lo)
theorem dqall_cut {B : Hp} {xs : List V} {ds : List PyData} (r : DqAll B xs ds) (lo hi : Option Int) : DqAll B (cutV xs lo hi) (cut ds lo hi) := by
  unfold cutV cut
  rw [dqall_len r]
  exact dqall_take _ (dqall_drop _ r)
abbrev DO := G → (Option Int → G → Prop) → Prop
def liftO (K : KR) (dt : DO) : TO := fun s H Q => ∃ F g tm k B al, Stt K F g tm s H B al ∧ dt g k ∧ ∀ b H' g' B' al', k b g' → Stt K F g' tm s H' B' al' → Q b H'
abbrev PDO (ρ : Root) (X : Cx) (e : Option Expr) (dt : DO) : Prop := PO X e (liftO ⟨X.K, ρ⟩ dt)
theorem po_imp {o : Option Expr} {t t' : TO} (h : PO X o t) (i : ∀ s H Q, t' s H Q → t s H Q) : PO X o t' := ⟨fun pins s σ H Q I q => h.run pins s σ H Q I (i σ H Q q)⟩
def dNo : DO := fun g k => k none g
def dPart (de : DE) : DO := fun g k => de g fun r g1 => ∃ i, r = .d (.int i) ∧ k (some i) g1
theorem pdo_none : PDO ρ X none dNo := po_imp po_none fun s H Q ⟨F, g, tm, k, B, al, S, hk, q⟩ => q none H g B al hk S
theorem pdo_some {de : DE} (h : PD ρ X e de) : PDO ρ X (some e) (dPart de) := po_imp (po_some h) fun s H Q ⟨F, g, tm, k, B, al, S, hk, q⟩ =>
  ⟨F, g, tm, _, B, al, S, hk, fun v H1 r g1 B1 al1 ⟨i, e, hk1⟩ S1 => by
    subst e
    cases dq_int (S1.top rfl)
    exact ⟨i, rfl, q _ H1 g1 B1 al1 hk1 (S1.temps fun p hp => List.mem_cons_of_mem _ hp)⟩⟩
/-- x[lo:hi] -/
def slR (r : R) (t : Bool) (c : List PyData) : R := match r with
  | .u _ _ => .u false c
  | _ => .d (if t then .tuple c else .list c)
theorem slR_l {g : G} {r : R} {ds c : List PyData} (h : seqOf g r = some (false, ds)) : slR r false c = .d (.list c) := by
  cases r with
  | u nd es => cases h
  | _ => rfl
def dSl (de : DE) (dl dh : DO) : DE := fun g k => de g fun r g1 => dl g1 fun lo g2 => dh g2 fun hi g3 => ∃ t ds, seqOf g3 r = some (t, ds) ∧ k (slR r t (cut ds lo hi)) g3
theorem cut_whole {α : Type} {xs : List α} {lo hi : Option Int} (h : HT.sIx xs.length 0 lo = 0 ∧ HT.sIx xs.length xs.length hi = xs.length) : cut xs lo hi = xs := by
  unfold cut
  rw [h.1, h.2, List.drop_zero, Nat.sub_zero, List.take_length]
theorem pd_sl {de : DE} {dl dh : DO} {lo hi : Option Expr} {p2 : Pos} (he : PD ρ X e de) (hl : PDO ρ X lo dl) (hh : PDO ρ X hi dh) : PD ρ X (.Subscript e (.Slice lo hi none p2) pos) (dSl de dl dh) :=
  pe_imp (pe_slice (SlR.or sl_list sl_tupN) he hl hh) fun s H Q ⟨F, g, tm, k, B, al, S, hk, q⟩ => ⟨F, g, tm, _, B, al, S, hk, fun v H1 r g1 B1 al1 hk1 S1 => ⟨F, g1, (v, r) :: tm, _, B1, al1, S1, hk1, fun l H2 g2 B2 al2 hk2 S2 => ⟨F, g2, (v, r) :: tm, _, B2, al2, S2, hk2, fun h H3 g3 B3 al3 ⟨t, ds, e, hk3⟩ S3 => by
    obtain ⟨a, xs, rfl, h1, h2⟩ := S3.seq (S3.top rfl) e
    have hc := dqall_cut h2 l h
    have S4 := S3.temps (tm' := tm) fun p hp => List.mem_cons_of_mem _ hp
    have q' : ∀ v H' r g' B' al', k r g' → Stt ⟨X.K, ρ⟩ F g' tm s H' B' al' → RvOk ⟨X.K, ρ⟩ B' al' v r → Q v H' := fun v H' r g' B' al' hr S' rv => q v H' r g' B' al' hr (S'.push rv)
    cases t with
    | false =>
      rw [slR_l e] at hk3
      exact .inl ⟨a, xs, rfl, h1, fun p hp => new_l S4 hp hc hk3 q'⟩
    | true =>
      rcases seq_tup e with er | ⟨nd, er⟩
      · subst er
        refine .inr ⟨a, xs, rfl, h1, fun hw => ?_, fun _ p ob hn hp => new_t S4 hp hc hk3 q' hn⟩
        rw [dqall_len h2] at hw
        have z : k (.d (.tuple (cut ds l h))) g3 := hk3
        rw [cut_whole hw] at z
        exact q' _ H3 _ g3 B3 al3 z S4 (S3.top rfl)
      · subst er
        have z : k (.u false (cut ds l h)) g3 := hk3
        refine .inr ⟨a, xs, rfl, h1, fun hw => ?_, fun _ p ob hn hp => ?_⟩
        · rw [dqall_len h2] at hw
          rw [cut_whole hw] at z
          obtain ⟨a2, xs2, f1, f2, _, f3⟩ := S3.top rfl
          exact q' _ H3 _ g3 B3 al3 z S4 ⟨a2, xs2, f1, f2, nofun, f3⟩
        · exact q' _ _ _ g3 _ al3 z (S4.grow hp) ⟨p, _, rfl, .inl (.inr ⟨_, upd_same⟩), nofun, dqall_mono (same_new (S4.bh.free hp)) hc⟩⟩⟩⟩
/-- lists: x + y; tuples: x + y -/
def oCatL : D2 := fun r1 r2 g k => ∃ xs ys, seqOf g r1 = some (false, xs) ∧ seqOf g r2 = some (false, ys) ∧ isMade r1 = true ∧ isMade r2 = true ∧ xs.length + ys.length ≤ 100000 ∧ k (.d (.list (xs ++ ys))) g
def oCatT : D2 := fun r1 r2 g k => ∃ xs ys, r1 = .d (.tuple xs) ∧ r2 = .d (.tuple ys) ∧ xs.length + ys.length ≤ 100000 ∧ k (.d (.tuple (xs ++ ys))) g
def dAnd (da db : DE) : DE := fun g k => da g fun r g1 => ∃ c, r = .d (.bool c) ∧ if c = true then db g1 k else k (.d (.bool false)) g1
def dNot (da : DE) : DE := fun g k => da g fun r g1 => ∃ c, r = .d (.bool c) ∧ k (.d (.bool (!c))) g1
theorem pd_one {op} {de : DE} (h : PD ρ X a de) : PD ρ X (.BoolOp op [a] pos) de := pe_one h
theorem pd_and {rest : List Expr} {da db : DE} (ha : PD ρ X a da) (hb : PD ρ X (.BoolOp .And (b :: rest) pos) db) : PD ρ X (.BoolOp .And (a :: b :: rest) pos) (dAnd da db) :=
  pe_imp (pe_and ha hb) fun s H Q ⟨F, g, tm, k, B, al, S, hk, q⟩ => ⟨F, g, tm, _, B, al, S, hk, fun v H1 r g1 B1 al1 ⟨c, e, hk1⟩ S1 => by
    subst e
    cases dq_bool (S1.top rfl)
    have S2 := S1.temps (tm' := tm) fun p hp => List.mem_cons_of_mem _ hp
    refine ⟨c, rfl, ?_⟩
    cases c with
    | true => exact iteT ⟨F, g1, tm, k, B1, al1, S2, hk1, q⟩
    | false => exact iteF (q _ H1 _ g1 B1 al1 hk1 (S2.push (Dq.bl _)))⟩
theorem pd_not {da : DE} (ha : PD ρ X a da) : PD ρ X (.UnaryOp .Not a pos) (dNot da) := pe_imp (pe_not ha) fun s H Q ⟨F, g, tm, k, B, al, S, hk, q⟩ =>
  ⟨F, g, tm, _, B, al, S, hk, fun v H1 r g1 B1 al1 ⟨c, e, hk1⟩ S1 => by
    subst e
    cases dq_bool (S1.top rfl)
    exact ⟨c, rfl, q _ H1 _ g1 B1 al1 hk1 ((S1.temps fun p hp => List.mem_cons_of_mem _ hp).push (Dq.bl _))⟩⟩
def dTst (da : DE) : DT := fun g k => da g fun r g1 => ∃ c, r = .d (.bool c) ∧ k c g1
theorem ref_tst {K : KR} {da : DE} : ∀ s H Q, liftT K (dTst da) s H Q → tB (lift K da) s H Q := fun s H Q ⟨F, g, tm, k, B, al, S, hk, q⟩ =>
  ⟨F, g, tm, _, B, al, S, hk, fun v H1 r g1 B1 al1 ⟨c, e, hk1⟩ S1 => by
    subst e
    cases dq_bool (S1.top rfl)
    exact ⟨c, rfl, q c H1 g1 B1 al1 hk1 (S1.temps fun p hp => List.mem_cons_of_mem _ hp)⟩⟩
/-- a value that is True or False as a test -/
theorem pdt_val {da : DE} (h : PD ρ X e da) (he : ∀ whole, isTrue e X.env whole = (do let v ← whole; standAt e.pos; holding [v] (truthy v)) := by intro _; rfl) : PDT ρ X e (dTst da) := pt_imp (pt_val h he) ref_tst
def dAndT (t u : DT) : DT := fun g k => t g fun c g1 => if c = true then u g1 k else k false g1
def dOrT (t u : DT) : DT := fun g k => t g fun c g1 => if c = true then k true g1 else u g1 k
def dNotT (t : DT) : DT := fun g k => t g fun c g1 => k (!c) g1
abbrev PDW (ρ : Root) (X : Cx) (e : Expr) (dt : DT) : Prop := PW X e (liftT ⟨X.K, ρ⟩ dt)
theorem pw_imp {t t' : TT} (h : PW X e t) (i : ∀ s H Q, t' s H Q → t s H Q) : PW X e t' := ⟨fun w pins s σ H Q I q => h.run w pins s σ H Q I (i σ H Q q)⟩
theorem pdw_and1 {t : DT} (h : PDT ρ X a t) : PDW ρ X (.BoolOp .And [a] pos) t := pw_and1 h
theorem pdw_or1 {t : DT} (h : PDT ρ X a t) : PDW ρ X (.BoolOp .Or [a] pos) t := pw_or1 h
theorem pdw_and {rest : List Expr} {t u : DT} (ha : PDT ρ X a t) (hb : PDW ρ X (.BoolOp .And (b :: rest) pos) u) : PDW ρ X (.BoolOp .And (a :: b :: rest) pos) (dAndT t u) :=
  pw_imp (pw_and ha hb) fun s H Q ⟨F, g, tm, k, B, al, S, hk, q⟩ => ⟨F, g, tm, _, B, al, S, hk, fun c H1 g1 B1 al1 hk1 S1 => by
    cases c with
    | true => exact iteT ⟨F, g1, tm, k, B1, al1, S1, hk1, q⟩
    | false => exact iteF (q _ H1 g1 B1 al1 hk1 S1)⟩
theorem pdw_or {rest : List Expr} {t u : DT} (ha : PDT ρ X a t) (hb : PDW ρ X (.BoolOp .Or (b :: rest) pos) u) : PDW ρ X (.BoolOp .Or (a :: b :: rest) pos) (dOrT t u) :=
  pw_imp (pw_or ha hb) fun s H Q ⟨F, g, tm, k, B, al, S, hk, q⟩ => ⟨F, g, tm, _, B, al, S, hk, fun c H1 g1 B1 al1 hk1 S1 => by
    cases c with
    | true => exact iteT (q _ H1 g1 B1 al1 hk1 S1)
    | false => exact iteF ⟨F, g1, tm, k, B1, al1, S1, hk1, q⟩⟩
theorem pdt_w {t : DT} (h : PDW ρ X e t) : PDT ρ X e t := PW.pt h
theorem pdt_not {t : DT} (h : PDT ρ X a t) : PDT ρ X (.UnaryOp .Not a pos) (dNotT t) := pt_imp (pt_not h) fun s H Q ⟨F, g, tm, k, B, al, S, hk, q⟩ => ⟨F, g, tm, _, B, al, S, hk, fun c H1 g1 B1 al1 hk1 S1 => q _ H1 g1 B1 al1 hk1 S1⟩
theorem pdt_cmp {op : CmpOp} {r : R2} {dr : D2} {da db : DE} (ho : OpR X (compareOp op) r) (hm : behindInMarks op b = false) (h : RefOp ⟨X.K, ρ⟩ r dr) (ha : PD ρ X a da) (hb : PD ρ X b db) : PDT ρ X (.Compare a [op] [b] pos) (dTst (dOp dr da db)) :=
  pt_imp (pt_cmpR ho ha hb hm) fun s H Q hq => ref_op h s H _ (show lift ⟨X.K, ρ⟩ (dOp dr da db) s H (fun x H' => ∃ k, x = .bl k ∧ Q k H') from (by
    obtain ⟨F, g, tm, k, B, al, S, hk, q⟩ := hq
    exact ⟨F, g, tm, _, B, al, S, hk, fun v H1 r g1 B1 al1 ⟨c, e, hk1⟩ S1 => by
      subst e
      cases dq_bool (S1.top rfl)
      exact ⟨c, rfl, q c H1 g1 B1 al1 hk1 (S1.temps fun p hp => List.mem_cons_of_mem _ hp)⟩⟩))
theorem pdt_lt {da db : DE} (ha : PD ρ X a da) (hb : PD ρ X b db) : PDT ρ X (.Compare a [.Lt] [b] pos) (dTst (dOp oLt da db)) := pdt_cmp op_lt (nomark _) (ref_I0 fun _ _ _ => .bl _) ha hb
theorem pdt_gt {da db : DE} (ha : PD ρ X a da) (hb : PD ρ X b db) : PDT ρ X (.Compare a [.Gt] [b] pos) (dTst (dOp oGt da db)) := pdt_cmp op_gt (nomark _) (ref_I0 fun _ _ _ => .bl _) ha hb
theorem ref_eqd {K : KR} : RefOp K (rEqD K.fr) oEq := by
  rintro F g tm s H B al x y r1 r2 k Q S hx hy ⟨dx, dy, e1, e2, s1, s2, hk⟩ q
  exact ⟨dx, dy, S.dat hx e1, S.dat hy e2, s1, s2, q _ H _ g B al hk S (Dq.bl _)⟩
theorem ref_ned {K : KR} : RefOp K (rNeD K.fr) oNe := by
  rintro F g tm s H B al x y r1 r2 k Q S hx hy ⟨dx, dy, e1, e2, s1, s2, hk⟩ q
  exact ⟨dx, dy, S.dat hx e1, S.dat hy e2, s1, s2, q _ H _ g B al hk S (Dq.bl _)⟩
theorem pdt_eq {da db : DE} (hu : X.A.units + 64 < cLine) (ha : PD ρ X a da) (hb : PD ρ X b db) : PDT ρ X (.Compare a [.Eq] [b] pos) (dTst (dOp oEq da db)) := pdt_cmp (op_eqD hu) (nomark _) ref_eqd ha hb
theorem pdt_ne {da db : DE} (hu : X.A.units + 64 < cLine) (ha : PD ρ X a da) (hb : PD ρ X b db) : PDT ρ X (.Compare a [.NotEq] [b] pos) (dTst (dOp oNe da db)) := pdt_cmp (op_neD hu) (nomark _) ref_ned ha hb
/-- a if t else b -/
def dIf (t : DT) (da db : DE) : DE := fun g k => t g fun c g1 => if c = true then da g1 k else db g1 k
theorem pd_if {t : DT} {da db : DE} (hc : PDT ρ X c t) (ha : PD ρ X a da) (hb : PD ρ X b db) : PD ρ X (.IfExp c a b pos) (dIf t da db) := pe_imp (pe_ifExp hc ha hb) fun s H Q ⟨F, g, tm, k, B, al, S, hk, q⟩ =>
  ⟨F, g, tm, _, B, al, S, hk, fun c H1 g1 B1 al1 hk1 S1 => by
    cases c with
    | true => exact iteT ⟨F, g1, tm, k, B1, al1, S1, hk1, q⟩
    | false => exact iteF ⟨F, g1, tm, k, B1, al1, S1, hk1, q⟩⟩
/-- a < b < c of whole numbers and the like -/
def dChain (o1 o2 : D2) (da db dc : DE) : DE := fun g k => da g fun r1 g1 => db g1 fun r2 g2 => o1 r1 r2 g2 fun r3 g3 => ∃ c, r3 = .d (.bool c) ∧ if c = true then dc g3 fun r4 g4 => o2 r2 r4 g4 k else k (.d (.bool false)) g3
theorem ref_chain {K : KR} {r r' : R2} {o1 o2 : D2} {da db dc : DE} (h1 : RefOp K r o1) (h2 : RefOp K r' o2) : ∀ s H Q, lift K (dChain o1 o2 da db dc) s H Q → tChain r r' (lift K da) (lift K db) (lift K dc) s H Q :=
  fun s H Q ⟨F, g, tm, k, B, al, S, hk, q⟩ => ⟨F, g, tm, _, B, al, S, hk, fun x H1 r1 g1 B1 al1 hk1 S1 => ⟨F, g1, (x, r1) :: tm, _, B1, al1, S1, hk1, fun y H2 r2 g2 B2 al2 hk2 S2 =>
    h1 F g2 ((y, r2) :: tm) s H2 B2 al2 x y r1 r2 _ _ (S2.temps fun p hp => by
      rcases List.mem_cons.mp hp with e | e
      · rw [e]; exact List.mem_cons_self
      · exact List.mem_cons_of_mem _ (List.mem_cons_of_mem _ e)) (S2.tm (x, r1) (by simp)) (S2.tm (y, r2) (by simp)) hk2 fun v H3 r3 g3 B3 al3 ⟨c, e, hk3⟩ S3 rv => by
      subst e
      cases dq_bool rv
      refine ⟨c, rfl, ?_⟩
      cases c with
      | true => exact iteT ⟨F, g3, (y, r2) :: tm, _, B3, al3, S3, hk3, fun w H4 r4 g4 B4 al4 hk4 S4 =>
          h2 F g4 tm s H4 B4 al4 y w r2 r4 k Q (S4.temps fun p hp => List.mem_cons_of_mem _ (List.mem_cons_of_mem _ hp)) (S4.tm (y, r2) (by simp)) (S4.tm (w, r4) (by simp)) hk4 fun v H' r g' B' al' hr S' rv => q v H' r g' B' al' hr (S'.push rv)⟩
      | false => exact iteF (q _ H3 _ g3 B3 al3 hk3 ((S3.temps fun p hp => List.mem_cons_of_mem _ hp).push (Dq.bl _)))⟩⟩
end
end DL
set_option Elab.async false
set_option linter.all false
set_option maxRecDepth 100000
set_option maxHeartbeats 4000000
set_option autoImplicit false
namespace DL
open PySem PySem.Spec PyProof.Rows L2
variable [Tx]
section
variable {ρ : Root} {X : Cx} {e a b c tg : Expr} {es : List Expr} {pos : Pos}
theorem ref_tt {K : KR} {da : DE} : ∀ s H Q, liftT K (dTst da) s H Q → tTest (lift K da) s H Q := fun s H Q ⟨F, g, tm, k, B, al, S, hk, q⟩ =>
  ⟨F, g, tm, _, B, al, S, hk, fun v H1 r g1 B1 al1 ⟨c, e, hk1⟩ S1 => by
    subst e
    cases dq_bool (S1.top rfl)
    exact ⟨c, rfl, q c H1 g1 B1 al1 hk1 (S1.temps fun p hp => List.mem_cons_of_mem _ hp)⟩⟩
theorem pdt_chain {op op' : CmpOp} {r r' : R2} {o1 o2 : D2} {da db dc : DE} (ho : OpR X (compareOp op) r) (ho' : OpR X (compareOp op') r') (h1 : RefOp ⟨X.K, ρ⟩ r o1) (h2 : RefOp ⟨X.K, ρ⟩ r' o2) (ha : PD ρ X a da) (hb : PD ρ X b db) (hc : PD ρ X c dc)
    (hm : lastMarks [op, op'] [b, c] = false := by with_unfolding_all rfl) : PDT ρ X (.Compare a [op, op'] [b, c] pos) (dTst (dChain o1 o2 da db dc)) :=
  pt_imp (pt_chain ho ho' ha hb hc hm) fun s H Q hq => ref_chain h1 h2 s H _ (ref_tt s H Q hq)
theorem pdt_lelt {da db dc : DE} (ha : PD ρ X a da) (hb : PD ρ X b db) (hc : PD ρ X c dc) (hm : lastMarks [.LtE, .Lt] [b, c] = false := by with_unfolding_all rfl) : PDT ρ X (.Compare a [.LtE, .Lt] [b, c] pos) (dTst (dChain oLe oLt da db dc)) :=
  pdt_chain op_le op_lt (ref_I0 fun _ _ _ => .bl _) (ref_I0 fun _ _ _ => .bl _) ha hb hc hm
abbrev DGs := List R → G → (G → Prop) → Prop
def liftG (K : KR) (ws : List Nat) (dg : DG) : TG := fun v s H Q => ∃ F g tm r k B al, Stt K F g tm s H B al ∧ RvOk K B al v r ∧ dg r g k ∧ ∀ s' H' g' B' al', k g' → Stt K F g' tm s' H' B' al' → wipe s' ws = wipe s ws → Q s' H'
def liftGs (K : KR) (ws : List Nat) (dg : DGs) : TGs := fun vs s H Q => ∃ F g tm rs k B al, Stt K F g tm s H B al ∧ Paired (RvOk K B al) vs rs ∧ dg rs g k ∧ ∀ s' H' g' B' al', k g' → Stt K F g' tm s' H' B' al' → wipe s' ws = wipe s ws → Q s' H'
abbrev PDG (ρ : Root) (X : Cx) (ws : List Nat) (tg : Expr) (dg : DG) : Prop := PG X tg (liftG ⟨X.K, ρ⟩ ws dg)
abbrev PDGs (ρ : Root) (X : Cx) (ws : List Nat) (tgs : List Expr) (dg : DGs) : Prop := PGs X tgs (liftGs ⟨X.K, ρ⟩ ws dg)
theorem pg_imp {t t' : TG} (h : PG X tg t) (i : ∀ v s H Q, t' v s H Q → t v s H Q) : PG X tg t' := ⟨fun pins s σ H v u Q I r q => h.run pins s σ H v u Q I r (i v σ H Q q)⟩
theorem pgs_imp {t t' : TGs} (h : PGs X es t) (i : ∀ v s H Q, t' v s H Q → t v s H Q) : PGs X es t' := ⟨fun pins s σ H v u Q I r q => h.run pins s σ H v u Q I r (i v σ H Q q)⟩
theorem wipe_set {s : L2.St} {v : Option V} {i : Nat} : ∀ {ws : List Nat}, i ∈ ws → wipe (s.set i v) ws = wipe s ws
  | [], h => by cases h
  | w :: ws, h => by
    unfold wipe
    by_cases e : i ∈ ws
    · rw [wipe_set e]
    · have ew : i = w := by
        rcases List.mem_cons.mp h with z | z
        · exact z
        · exact absurd z e
      subst ew
      have gen : ∀ us : List Nat, i ∉ us → (wipe (s.set i v) us).set i none = (wipe s us).set i none := by
        intro us
        induction us with
        | nil => intro _; unfold wipe; rw [List.set_set]
        | cons u us ih =>
          intro hu
          unfold wipe
          have h1 : i ≠ u := fun z => hu (z ▸ List.mem_cons_self)
          rw [List.set_comm _ _ (Ne.symm h1), ih (fun z => hu (List.mem_cons_of_mem _ z)), List.set_comm _ _ h1]
      exact gen ws e
def gN (i : Nat) : DG := fun r g k => k { g with sl := g.sl.set i (some r) }
theorem pdg_name {ws : List Nat} (i : Nat) {x : Str} (hN : X.N.Nodup) (hw : i ∈ ws) (hi : X.N[i]? = some x) (hx : Loc X.env.scope x) (hf : X.fn x = true ∨ X.env.scope.names.lookup x = some .local := by first | exact .inl rfl | exact .inr rfl | assumption) : PDG ρ X ws (.Name x pos) (gN i) :=
  pg_imp (pg_name hN hi hx hf) fun v s H Q ⟨F, g, tm, r, k, B, al, S, hv, hk, q⟩ => q _ H _ B al hk (S.store hv) (wipe_set hw)
def gsN : DGs := fun rs g k => rs = [] ∧ k g
def gsC (t : DG) (u : DGs) : DGs := fun rs g k => ∃ r rs', rs = r :: rs' ∧ t r g fun g1 => u rs' g1 k
theorem pdgs_nil {ws : List Nat} : PDGs ρ X ws [] gsN := pgs_imp pgs_nil fun vs s H Q ⟨F, g, tm, rs, k, B, al, S, hv, ⟨e, hk⟩, q⟩ => by
  subst e
  cases hv
  exact ⟨rfl, q _ H _ B al hk S rfl⟩
theorem Stt.pushes {K : KR} {F : Fm} {g : G} {tm : List (V × R)} {s : L2.St} {H B : Hp} {al : List Addr} {vs : List V} {rs : List R} (S : Stt K F g tm s H B al) (h : Paired (RvOk K B al) vs rs) : Stt K F g (vs.zip rs ++ tm) s H B al := by
  induction h with
  | nil => exact S
  | cons a b ih => exact ih.push a
theorem paired_of {K : KR} {B : Hp} {al : List Addr} : ∀ {vs : List V} {rs : List R}, vs.length = rs.length → (∀ p ∈ vs.zip rs, RvOk K B al p.1 p.2) → Paired (RvOk K B al) vs rs
  | [], [], _, _ => .nil
  | v :: vs, r :: rs, hl, h => .cons (h (v, r) (by simp)) (paired_of (by simpa using hl) fun p hp => h p (by rw [List.zip_cons_cons]; exact List.mem_cons_of_mem _ hp))
  | [], _ :: _, hl, _ => by simp at hl
  | _ :: _, [], hl, _ => by simp at hl
theorem pdgs_cons {ws : List Nat} {t : DG} {u : DGs} (h1 : PDG ρ X ws e t) (h2 : PDGs ρ X ws es u) (hs : (assignEach (e :: es) X.env).map (·.2) = assign e X.env :: (assignEach es X.env).map (·.2) := by rfl) : PDGs ρ X ws (e :: es) (gsC t u) :=
  pgs_imp (pgs_cons h1 h2 hs) fun vs s H Q ⟨F, g, tm, rs, k, B, al, S, hv, ⟨r, rs', er, hk⟩, q⟩ => by
    subst er
    cases hv with
    | @cons v _ vs' _ a b =>
      refine ⟨v, vs', rfl, F, g, vs'.zip rs' ++ tm, r, _, B, al, S.pushes b, a, hk, fun s1 H1 g1 B1 al1 hk1 S1 w1 => ?_⟩
      refine ⟨F, g1, tm, rs', k, B1, al1, S1.temps fun p hp => List.mem_append_right _ hp, paired_of b.length fun p hp => S1.tm p (List.mem_append_left _ hp), hk1, fun s2 H2 g2 B2 al2 hk2 S2 w2 => q s2 H2 g2 B2 al2 hk2 S2 (w2.trans w1)⟩
theorem dq_paired {K : KR} {B : Hp} {al : List Addr} : ∀ {xs : List V} {ds : List PyData}, DqAll B xs ds → Paired (RvOk K B al) xs (ds.map .d)
  | _, _, .nil => .nil
  | _, _, .cons r t => .cons r (dq_paired t)
/-- o[i] = v, o an own list -/
def gSubL (do_ di : DE) : DG := fun r g k => do_ g fun r1 g1 => di g1 fun r2 g2 => ∃ j ds i n x, r1 = .o j ∧ g2.ce[j]? = some (.lst ds) ∧ r2 = .d (.int i) ∧ ixN ds.length i = some n ∧ r = .d x ∧ k { g2 with ce := g2.ce.set j (.lst (ds.set n x)) }
theorem pdg_subL {ws : List Nat} {o i : Expr} {dd di : DE} (ho : PD ρ X o dd) (hi : PD ρ X i di)
    (ha : ∀ v, assign (.Subscript o i pos) X.env v = (do
      let ov ← holding [v] (eval o X.env)
      let iv ← holding [v, ov] (eval i X.env)
      standAt pos
      holding [v, ov, iv] (setItem ov iv v)
      release [v, ov, iv] []) := by intro _; rfl) : PDG ρ X ws (.Subscript o i pos) (gSubL dd di) :=
  pg_imp (pg_sub ho hi set_list ha) fun v s H Q ⟨F, g, tm, r, k, B, al, S, hv, hk, q⟩ => ⟨F, g, (v, r) :: tm, _, B, al, S.push hv, hk, fun x H1 r1 g1 B1 al1 hk1 S1 => ⟨F, g1, (x, r1) :: (v, r) :: tm, _, B1, al1, S1, hk1, fun y H2 r2 g2 B2 al2 ⟨j, ds, i, n, xd, e1, e2, e3, e4, e5, hk2⟩ S2 => by
    subst e1 e3 e5
    obtain ⟨p, hp, ex⟩ := S2.tm (x, R.o j) (by simp)
    have ex : x = .ref p := ex
    subst ex
    have ey := dq_int (S2.top rfl)
    have ey : y = .int i := ey
    subst ey
    have hv2 : Dq B2 v xd := S2.tm (v, R.d xd) (by simp)
    obtain ⟨xs, h1, h2⟩ := S2.ce j p _ hp e2
    refine ⟨p, xs, i, n, rfl, rfl, h1, by rw [dqall_len h2]; exact e4, ?_⟩
    exact q s _ _ B2 al2 hk2 ((S2.temps fun z hz => List.mem_cons_of_mem _ (List.mem_cons_of_mem _ (List.mem_cons_of_mem _ hz))).put hp e2 (by simp) ⟨_, upd_same, dqall_set hv2 n h2⟩) rfl⟩⟩
end
section
variable {ρ : Root} {X : Cx} {st : Stmt} {rest : List Stmt} {e c tg : Expr} {pos : Pos} {K : KR}
def sNext : DS := fun E g => E.nx g
def sSeq (t u : DS) : DS := fun E g => t { E with nx := u E } g
theorem pdss_nil : PDSs ρ X [] sNext := pss_imp pss_nil fun D s H ⟨F, g, tm, E, B, al, S, h, ok⟩ => ok.nx s H g B al h S
theorem pdss_cons {t u : DS} (h1 : PDS ρ X st t) (h2 : PDSs ρ X rest u) : PDSs ρ X (st :: rest) (sSeq t u) := pss_imp (pss_cons h1 h2) fun D s H ⟨F, g, tm, E, B, al, S, h, ok⟩ =>
  ⟨F, g, tm, { E with nx := u E }, B, al, S, h, ⟨fun s1 H1 g1 B1 al1 hk S1 => ⟨F, g1, tm, E, B1, al1, S1, hk, ok⟩, ok.rt, ok.bk, ok.ct, ok.tm0⟩⟩
theorem pdss_one {t : DS} (h1 : PDS ρ X st t) : PDSs ρ X [st] t := pss_one h1
def sExpr (de : DE) : DS := fun E g => de g fun _ g1 => E.nx g1
theorem pds_expr {de : DE} (he : PD ρ X e de) (hs : swapsWith e none pos.line X.env = pure false := by rfl) : PDS ρ X (.Expr e pos) (sExpr de) := ps_imp (ps_expr he hs) fun D s H ⟨F, g, tm, E, B, al, S, h, ok⟩ =>
  ⟨F, g, tm, _, B, al, S, h, fun v H1 r g1 B1 al1 hk S1 => ok.nx s H1 g1 B1 al1 hk (S1.temps fun p hp => List.mem_cons_of_mem _ hp)⟩
def sRet (de : DE) : DS := fun E g => de g E.rt
theorem pds_ret {de : DE} (he : PD ρ X e de) : PDS ρ X (.Return (some e) pos) (sRet de) := ps_imp (ps_ret he) fun D s H ⟨F, g, tm, E, B, al, S, h, ok⟩ =>
  ⟨F, g, tm, _, B, al, S, h, fun v H1 r g1 B1 al1 hk S1 => ok.rt s v H1 r g1 B1 al1 hk S1⟩
def sIf (t : DT) (a b : DS) : DS := fun E g => t g fun c g1 => if c = true then a E g1 else b E g1
theorem pds_if {a b : List Stmt} {t : DT} {u v : DS} (hc : PDT ρ X c t) (ha : PDSs ρ X a u) (hb : PDSs ρ X b v) : PDS ρ X (.If c a b pos) (sIf t u v) := ps_imp (ps_if hc ha hb) fun D s H ⟨F, g, tm, E, B, al, S, h, ok⟩ =>
  ⟨F, g, tm, _, B, al, S, h, fun b H1 g1 B1 al1 hk S1 => by
    cases b with
    | true => exact iteT ⟨F, g1, tm, E, B1, al1, S1, hk, ok⟩
    | false => exact iteF ⟨F, g1, tm, E, B1, al1, S1, hk, ok⟩⟩
def sAsg (de : DE) (dg : DG) : DS := fun E g => de g fun r g1 => dg r g1 E.nx
theorem ref_asg {ws : List Nat} {de : DE} {dg : DG} : ∀ D s H, liftS K (sAsg de dg) D s H → tAsg (lift K de) (liftG K ws dg) D s H := fun D s H ⟨F, g, tm, E, B, al, S, h, ok⟩ =>
  ⟨F, g, tm, _, B, al, S, h, fun v H1 r g1 B1 al1 hk S1 => ⟨F, g1, tm, r, _, B1, al1, S1.temps fun p hp => List.mem_cons_of_mem _ hp, S1.top rfl, hk, fun s' H' g' B' al' hk' S' _ => ok.nx s' H' g' B' al' hk' S'⟩⟩
theorem pds_asg {ws : List Nat} {de : DE} {dg : DG} (he : PD ρ X e de) (hg : PDG ρ X ws tg dg) (hs : swapsWithSole [tg] e pos.line X.env = pure false := by rfl) (hw : swappedStores [tg] e X.env = pure none := by rfl)
    (h1 : (assignEach [tg] X.env).map (·.2) = [assign tg X.env] := by rfl) : PDS ρ X (.Assign [tg] e pos) (sAsg de dg) := ps_imp (ps_asg he hg hs hw h1) ref_asg
theorem ref_asgN {i : Nat} {de : DE} : ∀ D s H, liftS K (sAsg de (gN i)) D s H → tAsg (lift K de) (gName i) D s H := fun D s H ⟨F, g, tm, E, B, al, S, h, ok⟩ =>
  ⟨F, g, tm, _, B, al, S, h, fun v H1 r g1 B1 al1 hk S1 => ok.nx _ H1 _ B1 al1 hk ((S1.temps (tm' := tm) fun p hp => List.mem_cons_of_mem _ hp).store (S1.top rfl))⟩
theorem pds_set {i : Nat} {x : Str} {de : DE} {pos' : Pos} (hN : X.N.Nodup) (hi : X.N[i]? = some x) (hx : Loc X.env.scope x) (he : PD ρ X e de) (hs : swapsWith e (some (.Name x pos')) pos.line X.env = pure false := by rfl)
    (hf : X.fn x = true ∨ X.env.scope.names.lookup x = some .local := by first | exact .inl rfl | exact .inr rfl | assumption) : PDS ρ X (.Assign [.Name x pos'] e pos) (sAsg de (gN i)) := ps_imp (ps_set hN hi hx he hs hf) ref_asgN
/-- a, b = x, y -/
def sPar (i j : Nat) (da : DA) : DS := fun E g => da g fun rs g1 => ∃ r1 r2, rs = [r1, r2] ∧ E.nx { g1 with sl := (g1.sl.set i (some r1)).set j (some r2) }
theorem pds_par {i j : Nat} {x y : Str} {a b : Expr} {da : DA} {px py pt : Pos} {kt k2 pt2} (hc : X.calm = true) (hN : X.N.Nodup) (hi : X.N[i]? = some x) (hj : X.N[j]? = some y) (hij : i ≠ j)
    (hx : X.env.scope.names.lookup x = some .local) (hy : X.env.scope.names.lookup y = some .local) (ha : PDA ρ X [a, b] da) (hw : swappedStores [.Tuple [.Name x px, .Name y py] kt pt] (.Tuple [a, b] k2 pt2) X.env = pure (some [x, y]))
    (hs : swapsWithSole [.Tuple [.Name x px, .Name y py] kt pt] (.Tuple [a, b] k2 pt2) pos.line X.env = pure false := by rfl) : PDS ρ X (.Assign [.Tuple [.Name x px, .Name y py] kt pt] (.Tuple [a, b] k2 pt2) pos) (sPar i j da) :=
  ps_imp (ps_par hc hN hi hj hij hx hy ha hw hs) fun D s H ⟨F, g, tm, E, B, al, S, h, ok⟩ => ⟨F, g, tm, _, B, al, S, h, fun vs H1 rs g1 B1 al1 ⟨r1, r2, er, hk⟩ S1 pr => by
    subst er
    obtain ⟨v, w, rfl, hv, hw⟩ := pair2 pr
    exact ⟨v, w, rfl, ok.nx _ H1 _ B1 al1 hk ((S1.store hv).store hw)⟩⟩
def sPar3 (i j l : Nat) (da : DA) : DS := fun E g => da g fun rs g1 => ∃ r1 r2 r3, rs = [r1, r2, r3] ∧ E.nx { g1 with sl := ((g1.sl.set i (some r1)).set j (some r2)).set l (some r3) }
theorem pair3 {B : Hp} {al : List Addr} {vs : List V} {r r' r'' : R} (h : Paired (RvOk K B al) vs [r, r', r'']) : ∃ v w z, vs = [v, w, z] ∧ RvOk K B al v r ∧ RvOk K B al w r' ∧ RvOk K B al z r'' := by
  cases h with
  | cons a b =>
    obtain ⟨w, z, e, h1, h2⟩ := pair2 b
    subst e
    exact ⟨_, _, _, rfl, a, h1, h2⟩
theorem pds_par3 {i j l : Nat} {x y z : Str} {a b c : Expr} {da : DA} {px py pz pt : Pos} {kt k2 pt2} (hc : X.calm = true) (hN : X.N.Nodup) (hi : X.N[i]? = some x) (hj : X.N[j]? = some y) (hl : X.N[l]? = some z) (hij : i ≠ j) (hil : i ≠ l) (hjl : j ≠ l)
    (hx : X.env.scope.names.lookup x = some .local) (hy : X.env.scope.names.lookup y = some .local) (hz : X.env.scope.names.lookup z = some .local) (ha : PDA ρ X [a, b, c] da)
    (hw : swappedStores [.Tuple [.Name x px, .Name y py, .Name z pz] kt pt] (.Tuple [a, b, c] k2 pt2) X.env = pure (some [x, y, z]))
    (hs : swapsWithSole [.Tuple [.Name x px, .Name y py, .Name z pz] kt pt] (.Tuple [a, b, c] k2 pt2) pos.line X.env = pure false := by rfl) : PDS ρ X (.Assign [.Tuple [.Name x px, .Name y py, .Name z pz] kt pt] (.Tuple [a, b, c] k2 pt2) pos) (sPar3 i j l da) :=
  ps_imp (ps_par3 hc hN hi hj hl hij hil hjl hx hy hz ha hw hs) fun D s H ⟨F, g, tm, E, B, al, S, h, ok⟩ => ⟨F, g, tm, _, B, al, S, h, fun vs H1 rs g1 B1 al1 ⟨r1, r2, r3, er, hk⟩ S1 pr => by
    subst er
    obtain ⟨v, w, z, rfl, hv, hw, hz⟩ := pair3 pr
    exact ⟨v, w, z, rfl, ok.nx _ H1 _ B1 al1 hk (((S1.store hv).store hw).store hz)⟩⟩
def sWhile (t : DT) (u : DS) : DS := fun E g => ∃ W : Nat → G → Prop, (∃ m, W m g) ∧ ∀ m g, W m g → t g fun c g1 => if c = true then u { E with nx := fun g' => ∃ m', m' < m ∧ W m' g', ct := fun g' => ∃ m', m' < m ∧ W m' g', bk := E.nx } g1 else E.nx g1
theorem pds_while {body : List Stmt} {t : DT} {u : DS} (hp : PassesOwn (model X.prog X.w) X.A X.env X.xe) (hc : PDT ρ X c t) (hb : PDSs ρ X body u) : PDS ρ X (.While c body [] pos) (sWhile t u) :=
  ps_imp (ps_while hp hc hb) fun D s H ⟨F, g, tm, E, B, al, S, ⟨W, ⟨m0, w0⟩, turn⟩, ok⟩ => by
    refine ⟨fun m s H => ∃ g B al, Stt ⟨X.K, ρ⟩ F g tm s H B al ∧ W m g, ⟨m0, g, B, al, S, w0⟩, ?_⟩
    rintro m s1 H1 ⟨g1, B1, al1, S1, w1⟩
    refine ⟨F, g1, tm, _, B1, al1, S1, turn m g1 w1, fun b H2 g2 B2 al2 hk S2 => ?_⟩
    cases b with
    | true =>
      refine iteT ⟨fun s' H' => ∃ g B al, Stt ⟨X.K, ρ⟩ F g tm s' H' B al ∧ ∃ m', m' < m ∧ W m' g, fun s' H' ⟨g', B', al', S', m', hm, w'⟩ => ⟨m', hm, g', B', al', S', w'⟩, ?_⟩
      exact ⟨F, g2, tm, _, B2, al2, S2, hk, ⟨fun s' H' g' B' al' h' S' => ⟨g', B', al', S', h'⟩, ok.rt, fun s' H' g' B' al' h' S' => ok.nx s' H' g' B' al' h' S', fun s' H' g' B' al' h' S' => ⟨g', B', al', S', h'⟩, ok.tm0⟩⟩
    | false => exact iteF (ok.nx s1 H2 g2 B2 al2 hk S2)
abbrev DI := G → (List PyData → G → Prop) → Prop
def WalkOk (K : KR) (B0 : Hp) (J : It) (ds : List PyData) : Prop := ∀ F g tm s H B al i, Stt K F g tm s H B al → Same B0 B →
  (∀ d, ds[i]? = some d → J.go i H ∧ ∀ x H', J.yld i H x H' → ∃ B', Stt K F g tm s H' B' al ∧ Same B B' ∧ Dq B' x d) ∧ (i = ds.length → J.stop i H)
def liftI (K : KR) (di : DI) : TI := fun s H Q => ∃ F g tm k B al, Stt K F g tm s H B al ∧ di g k ∧ ∀ J H' ds g' B' al', k ds g' → Stt K F g' tm s H' B' al' → WalkOk K B' J ds → Q J H'
abbrev PDI (ρ : Root) (X : Cx) (tg iter : Expr) (di : DI) : Prop := PI X tg iter (liftI ⟨X.K, ρ⟩ di)
theorem pi_imp {iter : Expr} {t t' : TI} (h : PI X tg iter t) (i : ∀ s H Q, t' s H Q → t s H Q) : PI X tg iter t' := ⟨fun pins s σ H Q I q => h.run pins s σ H Q I (i σ H Q q)⟩
/-- the whole numbers lo, lo + 1, .. -/
def rng (lo : Int) (n : Nat) : List PyData := (List.range n).map fun (i : Nat) => .int (lo + i)
theorem walk_rng {B : Hp} {lo : Int} {n : Nat} : WalkOk K B (Itr lo n) (rng lo n) := fun F g tm s H B1 al i S e => by
  have hl : (rng lo n).length = n := by unfold rng; rw [List.length_map, List.length_range]
  refine ⟨fun d hd => ?_, fun hi => by rw [hi, hl]; exact Nat.le_refl _⟩
  have hi : i < n := by
    have z := (List.getElem?_eq_some_iff.mp hd).1
    rw [hl] at z
    exact z
  have ed : d = .int (lo + i) := by
    unfold rng at hd
    rw [List.getElem?_map, List.getElem?_range hi] at hd
    exact (Option.some.inj hd).symm
  subst ed
  refine ⟨hi, fun y H' ⟨e1, e2⟩ => ?_⟩
  subst e1 e2
  exact ⟨B1, S, Same.refl _, Dq.int _⟩
def iR1 (da : DA) : DI := fun g k => da g fun rs g1 => ∃ j : Int, rs = [.d (.int j)] ∧ -(2 ^ 62) ≤ j ∧ j < 2 ^ 62 ∧ k (rng 0 j.toNat) g1
theorem pdi_range1 {a : Expr} {da : DA} {p : Pos} (hg : Gl X "range") (hm : X.mg "range" = none) (ha : PDA ρ X [a] da) (hs : starEach [a] X.env = [(false, eval a X.env)] := by rfl) : PDI ρ X tg (.Call (.Name "range" p) [a] [] pos) (iR1 da) :=
  pi_imp (pi_range1 hg hm ha hs) fun s H Q ⟨F, g, tm, k, B, al, S, hk, q⟩ => ⟨F, g, tm, _, B, al, S, hk, fun vs H1 rs g1 B1 al1 ⟨j, er, h1, h2, hk1⟩ S1 pr => by
    subst er
    obtain ⟨v, rfl, hv⟩ := pair1 pr
    cases dq_int hv
    exact ⟨j, rfl, h1, h2, q _ H1 _ g1 B1 al1 hk1 S1 walk_rng⟩⟩
def iR2 (da : DA) : DI := fun g k => da g fun rs g1 => ∃ i j : Int, rs = [.d (.int i), .d (.int j)] ∧ (-(2 ^ 62) ≤ i ∧ i < 2 ^ 62 ∧ -(2 ^ 62) ≤ j ∧ j < 2 ^ 62) ∧ k (rng i (j - i).toNat) g1
theorem pdi_range2 {a b : Expr} {da : DA} {p : Pos} (hg : Gl X "range") (hm : X.mg "range" = none) (ha : PDA ρ X [a, b] da) (hs : starEach [a, b] X.env = [(false, eval a X.env), (false, eval b X.env)] := by rfl) (hs2 : starEach [b] X.env = [(false, eval b X.env)] := by rfl) :
    PDI ρ X tg (.Call (.Name "range" p) [a, b] [] pos) (iR2 da) :=
  pi_imp (pi_range2 hg hm ha hs hs2) fun s H Q ⟨F, g, tm, k, B, al, S, hk, q⟩ => ⟨F, g, tm, _, B, al, S, hk, fun vs H1 rs g1 B1 al1 ⟨i, j, er, h1, hk1⟩ S1 pr => by
    subst er
    obtain ⟨v, w, rfl, hv, hw⟩ := pair2 pr
    cases dq_int hv
    cases dq_int hw
    exact ⟨i, j, rfl, h1, q _ H1 _ g1 B1 al1 hk1 S1 walk_rng⟩⟩
theorem Stt.reframe {F F' : Fm} {g : G} {tm : List (V × R)} {s : L2.St} {H B : Hp} {al : List Addr} (S : Stt K F g tm s H B al) (h0 : Same K.rt.B F'.B) (h1 : Same F'.B B) (h2 : F'.O = F.O) (h3 : F'.P = F.P) : Stt K F' g tm s H B al :=
  { S with rb := h0, ro := (by rw [h2]; exact S.ro), rp := (by rw [h3]; exact S.rp), ot := (by rw [h2]; exact S.ot), fb := h1, fo := by rw [h2]; exact S.fo, pre := by rw [h3]; exact S.pre }
def sFor (di : DI) (dg : DG) (u : DS) : DS := fun E g => di g fun ds g1 => ∃ I : Nat → G → Prop, I 0 g1 ∧ ∀ i g, I i g → (i = ds.length → E.nx g) ∧ ∀ x, ds[i]? = some x → dg (.d x) g fun g2 => u { E with nx := I (i + 1), ct := I (i + 1), bk := E.nx } g2
theorem pds_for {ws : List Nat} {iter : Expr} {body : List Stmt} {di : DI} {dg : DG} {u : DS} (hp : PassesOwn (model X.prog X.w) X.A X.env X.xe) (hc : X.calm = true) (hi : PDI ρ X tg iter di) (hg : PDG ρ X ws tg dg) (hb : PDSs ρ X body u)
    (hs : ∀ x, foldedSetIterable iter X.env x = pure x := by intro _; rfl) : PDS ρ X (.For tg iter body [] pos) (sFor di dg u) :=
  ps_imp (ps_for hp hc hi hg hb hs) fun D s H ⟨F, g, tm, E, B, al, S, h, ok⟩ => ⟨F, g, tm, _, B, al, S, h, fun J H1 ds g1 B1 al1 ⟨I, i0, turn⟩ S1 wk => by
    have fF : ∀ {g : G} {tm : List (V × R)} {s : L2.St} {H B : Hp} {al : List Addr}, Stt ⟨X.K, ρ⟩ ⟨B1, F.O, F.P⟩ g tm s H B al → Stt ⟨X.K, ρ⟩ F g tm s H B al := fun {g tm s H B al} S' => S'.reframe S1.rb (S1.fb.trans S'.fb) rfl rfl
    refine ⟨fun i m s H => m = ds.length - i ∧ i ≤ ds.length ∧ ∃ g B al, I i g ∧ Stt ⟨X.K, ρ⟩ ⟨B1, F.O, F.P⟩ g tm s H B al, ⟨ds.length, rfl, Nat.zero_le _, g1, B1, al1, i0, S1.reframe (S1.rb.trans S1.fb) (Same.refl _) rfl rfl⟩, ?_⟩
    rintro i m s2 H2 ⟨rfl, hi, g2, B2, al2, hI, S2⟩
    obtain ⟨t1, t2⟩ := turn i g2 hI
    obtain ⟨w1, w2⟩ := wk _ g2 tm s2 H2 B2 al2 i S2 S2.fb
    by_cases hlt : i < ds.length
    · obtain ⟨go, yl⟩ := w1 _ (List.getElem?_eq_getElem hlt)
      refine .inr ⟨go, fun s H => ∃ g B al, I (i + 1) g ∧ Stt ⟨X.K, ρ⟩ ⟨B1, F.O, F.P⟩ g tm s H B al, fun s' H' ⟨g', B', al', hI', S'⟩ => ⟨ds.length - (i + 1), by omega, rfl, hlt, g', B', al', hI', S'⟩, fun x H3 hy => ?_⟩
      obtain ⟨B3, S3, e3, hd⟩ := yl x H3 hy
      refine ⟨_, g2, tm, .d _, _, B3, al2, S3, hd, t2 _ (List.getElem?_eq_getElem hlt), fun s4 H4 g4 B4 al4 hk4 S4 _ => ?_⟩
      exact ⟨_, g4, tm, _, B4, al4, S4, hk4, ⟨fun s' H' g' B' al' h' S' => ⟨g', B', al', h', S'⟩, fun s' v H' r g' B' al' h' S' => ok.rt s' v H' r g' B' al' h' (fF S'), fun s' H' g' B' al' h' S' => ok.nx s' H' g' B' al' h' (fF S'), fun s' H' g' B' al' h' S' => ⟨g', B', al', h', S'⟩, ok.tm0⟩⟩
    · have e : i = ds.length := by omega
      exact .inl ⟨w2 e, ok.nx s2 H2 g2 B2 al2 (t1 e) (fF S2)⟩⟩
end
end DL
set_option Elab.async false
set_option linter.all false
set_option maxRecDepth 100000
set_option maxHeartbeats 4000000
set_option autoImplicit false
namespace DL
open PySem PySem.Spec PyProof.Rows L2
variable [Tx]
section
variable {prog : Program} {w : World} {A : Around} {E : Value → Shared → Prop} {s : Shared}
theorem collect_tupl {l : Addr} {vs : List Value} {Q : List Value → Shared → Prop} (hl : IsTup s.heap l vs.toArray)
    (h : Q vs { s with heap := (s.heap.push (seqObj "list" #[] 0)).update s.heap.objs.size (Obj.mapSeq (· ++ vs.toArray)) }) (hsz : vs.length ≤ sizeLine) : wpAny (model prog w) A (collect (.ref l)) Q E s := by
  obtain ⟨o, ho, hc, n, hd⟩ := id hl
  unfold collect
  refine wpAny_bind (wpAny_runValue (codeAny_builtin entry_proto_collect' ?_))
  show wpAny _ _ (do again (.builtin "list.__iadd__" ⟨[← newList [], .ref l], []⟩)) _ _ s
  refine wpAny_bind (wpAny_newList (wpAny_pure ⟨Code.quiet_builtin _ (by decide +kernel), codeAny_builtin entry_list_iadd' ?_⟩))
  show wpAny _ _ (Builtin.List.listExtendWith (.ref s.heap.objs.size) (.ref l) (.ref s.heap.objs.size)) _ _ { s with heap := s.heap.push (seqObj "list" #[] 0) }
  unfold Builtin.List.listExtendWith
  have ho' : (s.heap.push (seqObj "list" #[] 0)).get? l = some o := Heap.get?_push_of_some _ ho
  refine wpAny_bind (wpAny_typeOf (T := "tuple") ⟨o, ho', hc⟩ ?_)
  have ht : (Value.type "tuple" == Value.type "tuple") = true := by rfl
  rw [if_pos (by rw [ht]; simp)]
  refine wpAny_bind (listItems_at ho' hd ?_)
  refine wpAny_bind (listItems_at (xs := #[]) (n := 0) (Heap.get?_push_size _ rfl) rfl ?_)
  rw [if_neg (by simp)]
  refine wpAny_bind (listUpdate_at (xs := #[]) (n := 0) (Heap.get?_push_size _ rfl) rfl ?_ (Nat.zero_le _) (by show (#[] ++ vs.toArray).size ≤ sizeLine + 1; simp only [Array.size_append, List.size_toArray, List.length_nil]; omega))
  refine wpAny_pure ?_
  show wpAny (model prog w) A (do
      let o ← load s.heap.objs.size
      match o.data with
      | .seq xs _ => pure xs.toList
      | _ => unsupported "internal:collect") Q E { s with heap := (s.heap.push (seqObj "list" #[] 0)).update s.heap.objs.size (Obj.mapSeq (· ++ vs.toArray)) }
  refine wpAny_bind (wpAny_load (get?_update_seq (Heap.get?_push_size _ rfl) _) ?_)
  show wpAny _ _ (pure ((#[] : Array Value) ++ vs.toArray).toList) Q E _
  rw [show ((#[] : Array Value) ++ vs.toArray).toList = vs by simp]
  exact wpAny_pure h
theorem sorted_tupl {l : Addr} {vs : List Value} {ltv : Value → Value → Bool} {Q : Value → Shared → Prop} (O : SrtO.Swo ltv) (hl : IsTup s.heap l vs.toArray) (hz : vs.length ≤ sizeLine)
    (hS : 2 ≤ vs.length → ∀ (h₁ : Heap) (a : Addr), h₁.get? a = some (seqObj "list" vs.toArray 0) → (∀ b o, s.heap.get? b = some o → b ≠ a ∧ h₁.get? b = some o) → SrtO.SortableO prog w A.in1.in1 { s with heap := h₁ } a vs ltv)
    (h : ∀ out : List Value, SrtO.Srtd ltv out → SrtO.Stb ltv out vs → Q (.ref (s.heap.objs.size + 1)) { s with heap := sortedAll s.heap vs out.toArray }) :
    wpAny (model prog w) A (call (.builtin "sorted") [.ref l]) Q E s := by
  refine Calls.call_function_entry kind_sorted plain_sorted entry_sorted (args_sorted1 _) ?_
  unfold Builtin.«sorted»
  refine wpAny_bind (m := checkCount "sorted" 1 1 _) (wpAny_pure ?_)
  refine wpAny_bind (collect_tupl hl ?_ hz)
  refine wpAny_bind (wpAny_newList ?_ hz)
  have hsz : ((s.heap.push (seqObj "list" #[] 0)).update s.heap.objs.size (Obj.mapSeq (· ++ vs.toArray))).objs.size = s.heap.objs.size + 1 := by
    rw [Heap.size_update, size_push']
  have hoL : (((s.heap.push (seqObj "list" #[] 0)).update s.heap.objs.size (Obj.mapSeq (· ++ vs.toArray))).push (seqObj "list" vs.toArray 0)).get? (s.heap.objs.size + 1) = some (seqObj "list" vs.toArray 0) := by
    rw [← hsz]; exact Heap.get?_push_size _ rfl
  have keep : ∀ b o, s.heap.get? b = some o → b ≠ s.heap.objs.size + 1 ∧ (((s.heap.push (seqObj "list" #[] 0)).update s.heap.objs.size (Obj.mapSeq (· ++ vs.toArray))).push (seqObj "list" vs.toArray 0)).get? b = some o := fun b o q => by
    have hlt : b < s.heap.objs.size := Heap.lt_size q
    refine ⟨Nat.ne_of_lt (Nat.lt_succ_of_lt hlt), Heap.get?_push_of_some _ ?_⟩
    rw [Heap.get?_update_ne _ _ _ _ (Nat.ne_of_lt hlt)]
    exact Heap.get?_push_of_some _ q
  show wpAny _ _ _ _ _ { s with heap := ((s.heap.push (seqObj "list" #[] 0)).update s.heap.objs.size (Obj.mapSeq (· ++ vs.toArray))).push (seqObj "list" vs.toArray 0) }
  rw [hsz]
  refine wpAny_bind (wpAny_holding (wpAny_call_entry slot_list_sort ⟨_, hoL, rfl⟩ entry_list_sort (SrtO.list_sort_ord O hoL hz (fun h2 => hS h2 _ _ hoL keep) fun out hs hb => ⟨_, rfl, ?_⟩) (args_list_sort _)))
  exact wpAny_pure ⟨_, rfl, h out hs hb⟩
end
def rSrtT (K : PySem.W.Frag) : List V → Hp → VK → Prop := fun vs H Q => ∃ (a : Addr) (ns : List Int), vs = [V.ref a] ∧ SqT K H a (ns.map V.int) ∧ ∀ (ns' : List Int) (p : Addr), ns'.Perm ns → ns'.Pairwise (· ≤ ·) → H p = none → Q (.ref p) (upd H p (.lst (ns'.map V.int)))
section
variable {ρ : Root} {X : Cx} {e a b c o : Expr} {es : List Expr} {pos : Pos} {K : KR}
theorem cr_sortedT0 : CallR X (.builtin "sorted") (rSrtT X.K) := by
  intro pins s σ H vs us Q I r h
  obtain ⟨a, ns, rfl, hs, q⟩ := h
  obtain ⟨its, rv, hl, hz⟩ := I.tuple hs
  rw [Vals.ref1 r]
  have hi := rv.ints
  refine sorted_tupl SrtO.swo_int hl (by rw [← rv.length]; exact hz) (fun h2 h₁ a' _ _ => SrtO.ints_sortable hi h2) fun out h1 h2 => ?_
  obtain ⟨k1, k2, k3⟩ := SrtO.ints_out hi h1 h2
  obtain ⟨ep, he'⟩ := PyProof.Rows.sortedAll_at s.heap its out.toArray
  have hlen : ((out.map SrtO.iv).map V.int).length ≤ sizeLine := by
    rw [List.length_map, k2.length_eq]
    rw [List.length_map] at hz
    exact hz
  exact ⟨.ref _, upd H (s.heap.objs.size + 1) (.lst ((out.map SrtO.iv).map V.int)), I.laid (t' := s.toks) (fun _ _ => PyProof.Rows.sortedAll_old) (Nat.le_succ _) ⟨hlen, out, ep, vals_of_ints k1, he'⟩, rfl, q _ _ k2 k3 (I.hok.fresh (Nat.le_succ _))⟩
theorem CallR.or {f : Value} {r r' : List V → Hp → VK → Prop} (h : CallR X f r) (h' : CallR X f r') : CallR X f (fun xs H Q => r xs H Q ∨ r' xs H Q) := by
  intro pins s σ H vs us Q I rr q
  rcases q with q | q
  · exact h pins s σ H vs us Q I rr q
  · exact h' pins s σ H vs us Q I rr q
/-- ascending whole numbers -/
def srt (ns : List Int) : List Int := ns.mergeSort (fun i j => decide (i ≤ j))
theorem srt_perm (ns : List Int) : (srt ns).Perm ns := List.mergeSort_perm _ _
theorem srt_sorted (ns : List Int) : (srt ns).Pairwise (· ≤ ·) := by
  have h := List.pairwise_mergeSort (le := fun (i j : Int) => decide (i ≤ j)) (fun a b c h1 h2 => by simp only [decide_eq_true_eq] at *; omega) (fun a b => by simp only [Bool.or_eq_true, decide_eq_true_eq]; omega) ns
  exact h.imp fun h => by simpa using h
theorem sorted_uniq {l l' : List Int} (hp : l.Perm l') (h : l.Pairwise (· ≤ ·)) (h' : l'.Pairwise (· ≤ ·)) : l = l' :=
  hp.eq_of_pairwise (fun a b _ _ h1 h2 => Int.le_antisymm h1 h2) h h'
theorem srt_eq {ns l : List Int} (hp : l.Perm ns) (h : l.Pairwise (· ≤ ·)) : l = srt ns := sorted_uniq (hp.trans (srt_perm ns).symm) h (srt_sorted ns)
def cSorted : DCl := fun rs g k => ∃ (r : R) (t : Bool) (ns : List Int), rs = [r] ∧ seqOf g r = some (t, ns.map .int) ∧ k (.d (.list ((srt ns).map .int))) g
theorem pd_sorted {p : Pos} {da : DA} (hg : Gl X "sorted") (hm : X.mg "sorted" = none) (ha : PDA ρ X (e :: es) da) (he : starEach (e :: es) X.env = (false, eval e X.env) :: starEach es X.env := by rfl) (hpl : (backTo pos (starEach es X.env)).any (·.1) = false := by rfl) :
    PD ρ X (.Call (.Name "sorted" p) (e :: es) [] pos) (dCall cSorted da) := by
  refine pd_callB (CallR.or cr_sortedI cr_sortedT0) ?_ hg hm (by decide +kernel) ha (he := he) (hpl := hpl)
  rintro F g tm s H B al vs rs k Q S pr ⟨r, t, ns, rfl, hs, hk⟩ q
  obtain ⟨v, rfl, hv⟩ := pair1 pr
  obtain ⟨a, xs, rfl, h1, h2⟩ := S.seq hv hs
  cases dqall_ints h2
  cases t with
  | false => exact .inl ⟨a, ns, rfl, h1, fun ns' p hp hs' hn => by
      rw [srt_eq hp hs']
      exact new_l S hn (dqall_mkints _) hk q⟩
  | true => exact .inr ⟨a, ns, rfl, h1, fun ns' p hp hs' hn => by
      rw [srt_eq hp hs']
      exact new_l S hn (dqall_mkints _) hk q⟩
abbrev DM := R → List R → G → (R → G → Prop) → Prop
def RefM (K : KR) (r : V → List V → Hp → VK → Prop) (dm : DM) : Prop := ∀ F g tm s H B al x vs r0 rs k Q, Stt K F g tm s H B al → RvOk K B al x r0 → Paired (RvOk K B al) vs rs → dm r0 rs g k →
  (∀ v H' r g' B' al', k r g' → Stt K F g' tm s H' B' al' → RvOk K B' al' v r → Q v H') → r x vs H Q
def dMeth (dm : DM) (dd : DE) (da : DA) : DE := fun g k => dd g fun r g1 => (∃ ds, seqOf g1 r = some (false, ds)) ∧ da g1 fun rs g2 => dm r rs g2 k
theorem pd_meth {name : Str} {apos cpos : Pos} {id : String} {r : V → List V → Hp → VK → Prop} {dm : DM} {dd : DE} {da : DA} (slot : Slot "list" name id) (hty : typeOf (.builtin id) = pure (.type "method_descriptor")) (hm : MtR X id r) (h : RefM ⟨X.K, ρ⟩ r dm) (ho : PD ρ X o dd) (ha : PDA ρ X (e :: es) da)
    (hbase : attributeBase o name X.env (eval o X.env) = eval o X.env := by rfl)
    (hfew : ((backTo cpos (starEach (e :: es) X.env)).all (fun x => !x.1) && (backToKw cpos (keywordEach [] X.env)).all (fun x => x.1.isSome) && decide ((e :: es).length + ([] : List Keyword).length + (if ([] : List Keyword).isEmpty then 0 else 1) < 30)) = true := by rfl)
    (hline : (apos.endLine == cpos.line) = true := by rfl) (hs : starEach (e :: es) X.env = (false, eval e X.env) :: starEach es X.env := by rfl) (hplain : (backTo cpos (starEach es X.env)).any (·.1) = false := by rfl) :
    PD ρ X (.Call (.Attribute o name apos) (e :: es) [] cpos) (dMeth dm dd da) :=
  pe_imp (pe_bm PySem.F.plainAttrs_list slot hty hm ho ha hbase hfew hline hs hplain) fun s H Q ⟨F, g, tm, k, B, al, S, hk, q⟩ => ⟨F, g, tm, _, B, al, S, hk, fun x H1 r1 g1 B1 al1 ⟨⟨ds, hd⟩, hk1⟩ S1 => by
    obtain ⟨a, xs, rfl, h1, h2⟩ := S1.seq (S1.top rfl) hd
    exact ⟨.inl ⟨rfl, xs, h1⟩, F, g1, (V.ref a, r1) :: tm, _, B1, al1, S1, hk1, fun vs H2 rs g2 B2 al2 hk2 S2 pr =>
      h F g2 tm s H2 B2 al2 (.ref a) vs r1 rs k Q (S2.temps fun p hp => List.mem_cons_of_mem _ hp) (S2.top rfl) pr hk2 fun v H' r g' B' al' hr S' rv => q v H' r g' B' al' hr (S'.push rv)⟩⟩
def mAppend : DM := fun r rs g k => ∃ j ds x, r = .o j ∧ rs = [.d x] ∧ g.ce[j]? = some (.lst ds) ∧ ds.length < 100000 ∧ k (.d .none) { g with ce := g.ce.set j (.lst (ds ++ [x])) }
theorem ref_append : RefM K rAppend mAppend := by
  rintro F g tm s H B al x vs r0 rs k Q S hx pr ⟨j, ds, y, rfl, rfl, hc, hz, hk⟩ q
  obtain ⟨p, hp, rfl⟩ := hx
  obtain ⟨v, rfl, hv⟩ := pair1 pr
  obtain ⟨xs, h1, h2⟩ := S.ce j p _ hp hc
  exact ⟨p, xs, v, rfl, rfl, h1, by rw [dqall_len h2]; exact sz_lt hz, q _ _ _ _ B al hk (S.put hp hc (by simp) ⟨_, upd_same, dqall_app h2 (.cons hv .nil)⟩) Dq.non⟩
theorem pd_append {apos cpos : Pos} {dd : DE} {da : DA} (ho : PD ρ X o dd) (ha : PDA ρ X (e :: es) da)
    (hbase : attributeBase o "append" X.env (eval o X.env) = eval o X.env := by rfl)
    (hfew : ((backTo cpos (starEach (e :: es) X.env)).all (fun x => !x.1) && (backToKw cpos (keywordEach [] X.env)).all (fun x => x.1.isSome) && decide ((e :: es).length + ([] : List Keyword).length + (if ([] : List Keyword).isEmpty then 0 else 1) < 30)) = true := by rfl)
    (hline : (apos.endLine == cpos.line) = true := by rfl) (hs : starEach (e :: es) X.env = (false, eval e X.env) :: starEach es X.env := by rfl) (hplain : (backTo cpos (starEach es X.env)).any (·.1) = false := by rfl) :
    PD ρ X (.Call (.Attribute o "append" apos) (e :: es) [] cpos) (dMeth mAppend dd da) := pd_meth PySem.F.slot_list_append PySem.F.type_list_append mt_append ref_append ho ha hbase hfew hline hs hplain
def mInsert : DM := fun r rs g k => ∃ j ds x i, r = .o j ∧ rs = [.d (.int i), .d x] ∧ g.ce[j]? = some (.lst ds) ∧ ds.length < 100000 ∧ 0 ≤ i ∧ i < 2 ^ 63 ∧ k (.d .none) { g with ce := g.ce.set j (.lst (ds.take i.toNat ++ [x] ++ ds.drop i.toNat)) }
theorem ref_insert : RefM K (fun x vs H Q => ∃ (l : Addr) (xs : List V) (i : Int) (y : V), x = .ref l ∧ vs = [.int i, y] ∧ H l = some (.lst xs) ∧ xs.length < sizeLine ∧ 0 ≤ i ∧ i < 2 ^ 63 ∧ Q .non (upd H l (.lst (xs.take i.toNat ++ [y] ++ xs.drop i.toNat)))) mInsert := by
  rintro F g tm s H B al x vs r0 rs k Q S hx pr ⟨j, ds, y, i, rfl, rfl, hc, hz, h0, h63, hk⟩ q
  obtain ⟨p, hp, rfl⟩ := hx
  obtain ⟨v, w, rfl, hv, hw⟩ := pair2 pr
  cases dq_int hv
  obtain ⟨xs, h1, h2⟩ := S.ce j p _ hp hc
  exact ⟨p, xs, i, w, rfl, rfl, h1, by rw [dqall_len h2]; exact sz_lt hz, h0, h63, q _ _ _ _ B al hk (S.put hp hc (by simp) ⟨_, upd_same, dqall_app (dqall_app (dqall_take _ h2) (.cons hw .nil)) (dqall_drop _ h2)⟩) Dq.non⟩
theorem pd_insert {apos cpos : Pos} {dd : DE} {da : DA} (ho : PD ρ X o dd) (ha : PDA ρ X (e :: es) da)
    (hbase : attributeBase o "insert" X.env (eval o X.env) = eval o X.env := by rfl)
    (hfew : ((backTo cpos (starEach (e :: es) X.env)).all (fun x => !x.1) && (backToKw cpos (keywordEach [] X.env)).all (fun x => x.1.isSome) && decide ((e :: es).length + ([] : List Keyword).length + (if ([] : List Keyword).isEmpty then 0 else 1) < 30)) = true := by rfl)
    (hline : (apos.endLine == cpos.line) = true := by rfl) (hs : starEach (e :: es) X.env = (false, eval e X.env) :: starEach es X.env := by rfl) (hplain : (backTo cpos (starEach es X.env)).any (·.1) = false := by rfl) :
    PD ρ X (.Call (.Attribute o "insert" apos) (e :: es) [] cpos) (dMeth mInsert dd da) := pd_meth PySem.F.slot_list_insert PySem.F.type_list_insert mt_insert ref_insert ho ha hbase hfew hline hs hplain
/-- pop(i) -/
def mPopAt : DM := fun r rs g k => ∃ j ds i n x, r = .o j ∧ rs = [.d (.int i)] ∧ g.ce[j]? = some (.lst ds) ∧ -(2 ^ 63) ≤ i ∧ i < 2 ^ 63 ∧ seqIndex? i ds.length = some n ∧ ds[n]? = some x ∧ k (.d x) { g with ce := g.ce.set j (.lst (ds.eraseIdx n)) }
theorem ref_popAt : RefM K rPopAt mPopAt := by
  rintro F g tm s H B al x vs r0 rs k Q S hx pr ⟨j, ds, i, n, y, rfl, rfl, hc, h1, h2, h3, h4, hk⟩ q
  obtain ⟨p, hp, rfl⟩ := hx
  obtain ⟨v, rfl, hv⟩ := pair1 pr
  cases dq_int hv
  obtain ⟨xs, e1, e2⟩ := S.ce j p _ hp hc
  obtain ⟨z, hz, hd⟩ := dqall_get e2 h4
  exact ⟨p, xs, i, n, z, rfl, rfl, e1, h1, h2, by rw [dqall_len e2]; exact h3, hz, q _ _ _ _ B al hk (S.put hp hc (by simp) ⟨_, upd_same, dqall_erase n e2⟩) hd⟩
theorem pd_popAt {apos cpos : Pos} {dd : DE} {da : DA} (ho : PD ρ X o dd) (ha : PDA ρ X (e :: es) da)
    (hbase : attributeBase o "pop" X.env (eval o X.env) = eval o X.env := by rfl)
    (hfew : ((backTo cpos (starEach (e :: es) X.env)).all (fun x => !x.1) && (backToKw cpos (keywordEach [] X.env)).all (fun x => x.1.isSome) && decide ((e :: es).length + ([] : List Keyword).length + (if ([] : List Keyword).isEmpty then 0 else 1) < 30)) = true := by rfl)
    (hline : (apos.endLine == cpos.line) = true := by rfl) (hs : starEach (e :: es) X.env = (false, eval e X.env) :: starEach es X.env := by rfl) (hplain : (backTo cpos (starEach es X.env)).any (·.1) = false := by rfl) :
    PD ρ X (.Call (.Attribute o "pop" apos) (e :: es) [] cpos) (dMeth mPopAt dd da) := pd_meth PySem.F.slot_list_pop PySem.F.type_list_pop mt_popAt ref_popAt ho ha hbase hfew hline hs hplain
/-- index of data -/
def mIndex : DM := fun r rs g k => ∃ ds r1 d n, datOf g r = some (.list ds) ∧ rs = [r1] ∧ datOf g r1 = some d ∧ SeqAt.shaped (.list ds) = true ∧ SeqAt.shaped d = true ∧ ds.findIdx? (fun z => PyData.eqv z d) = some n ∧ k (.d (.int (n : Nat))) g
theorem ref_index : RefM K (rIndexD K.fr) mIndex := by
  rintro F g tm s H B al x vs r0 rs k Q S hx pr ⟨ds, r1, d, n, e1, rfl, e2, s1, s2, h3, hk⟩ q
  obtain ⟨v, rfl, hv⟩ := pair1 pr
  have h1 := S.dat hx e1
  have h2 := S.dat hv e2
  obtain ⟨hn, hb, hm⟩ := List.findIdx?_eq_some_iff_getElem.mp h3
  have ha : ∃ a, x = .ref a := by cases h1 with | lst _ _ => exact ⟨_, rfl⟩
  obtain ⟨a, rfl⟩ := ha
  refine ⟨a, v, d, ds, n, ds[n], rfl, rfl, h1, h2, s1, s2, List.getElem?_eq_getElem hn, hb, fun m z' hm' hz => ?_, q _ H _ g B al hk S (Dq.int _)⟩
  have hml : m < ds.length := by omega
  rw [List.getElem?_eq_getElem hml] at hz
  cases hz
  have z := hm m hm'
  simpa using z
theorem pd_index {apos cpos : Pos} {dd : DE} {da : DA} (hu : X.A.units + 65 < cLine) (ho : PD ρ X o dd) (ha : PDA ρ X (e :: es) da)
    (hbase : attributeBase o "index" X.env (eval o X.env) = eval o X.env := by rfl)
    (hfew : ((backTo cpos (starEach (e :: es) X.env)).all (fun x => !x.1) && (backToKw cpos (keywordEach [] X.env)).all (fun x => x.1.isSome) && decide ((e :: es).length + ([] : List Keyword).length + (if ([] : List Keyword).isEmpty then 0 else 1) < 30)) = true := by rfl)
    (hline : (apos.endLine == cpos.line) = true := by rfl) (hs : starEach (e :: es) X.env = (false, eval e X.env) :: starEach es X.env := by rfl) (hplain : (backTo cpos (starEach es X.env)).any (·.1) = false := by rfl) :
    PD ρ X (.Call (.Attribute o "index" apos) (e :: es) [] cpos) (dMeth mIndex dd da) := pd_meth PySem.F.slot_list_index PySem.F.type_list_index (mt_indexD hu) ref_index ho ha hbase hfew hline hs hplain
theorem inV_ints (i : Int) : ∀ ns : List Int, inV (.int i) (ns.map V.int) = decide (i ∈ ns)
  | [] => by simp [inV]
  | n :: ns => by
    have ih := inV_ints i ns
    unfold inV at ih ⊢
    rw [List.map_cons, List.any_cons, ih]
    by_cases e : n = i
    · subst e; simp [eqV]
    · have e' : ¬ i = n := fun z => e z.symm
      have z : eqV (V.int n) (V.int i) = false := by
        show (n == i) = false
        simpa using e
      rw [z, Bool.false_or]
      simp [e']
theorem flat_ints (ns : List Int) : (ns.map V.int).all flatV = true := by
  rw [List.all_eq_true]
  intro x hx
  obtain ⟨n, _, rfl⟩ := List.mem_map.mp hx
  rfl
def oIn : D2 := fun r1 r2 g k => ∃ (i : Int) (t : Bool) (ns : List Int), r1 = .d (.int i) ∧ seqOf g r2 = some (t, ns.map .int) ∧ k (.d (.bool (decide (i ∈ ns)))) g
def oNotIn : D2 := fun r1 r2 g k => ∃ (i : Int) (t : Bool) (ns : List Int), r1 = .d (.int i) ∧ seqOf g r2 = some (t, ns.map .int) ∧ k (.d (.bool (!decide (i ∈ ns)))) g
theorem ref_in : RefOp K (rIn K.fr false) oIn := by
  rintro F g tm s H B al x y r1 r2 k Q S hx hy ⟨i, t, ns, rfl, h2, hk⟩ q
  cases dq_int hx
  obtain ⟨a, xs, rfl, h1, h3⟩ := S.seq hy h2
  cases dqall_ints h3
  refine ⟨a, _, rfl, h1.or, rfl, flat_ints ns, ?_⟩
  rw [if_neg Bool.false_ne_true, inV_ints]
  exact q _ H _ g B al hk S (Dq.bl _)
theorem ref_notIn : RefOp K (rIn K.fr true) oNotIn := by
  rintro F g tm s H B al x y r1 r2 k Q S hx hy ⟨i, t, ns, rfl, h2, hk⟩ q
  cases dq_int hx
  obtain ⟨a, xs, rfl, h1, h3⟩ := S.seq hy h2
  cases dqall_ints h3
  refine ⟨a, _, rfl, h1.or, rfl, flat_ints ns, ?_⟩
  rw [if_pos rfl, inV_ints]
  exact q _ H _ g B al hk S (Dq.bl _)
def cAll : DCl := fun rs g k => ∃ (r : R) (bs : List Bool), rs = [r] ∧ seqOf g r = some (false, bs.map .bool) ∧ k (.d (.bool (bs.all id))) g
theorem ref_all : RefC K (rAll K.fr) cAll := by
  rintro F g tm s H B al vs rs k Q S pr ⟨r, bs, rfl, hs, hk⟩ q
  obtain ⟨v, rfl, hv⟩ := pair1 pr
  obtain ⟨a, xs, rfl, h1, h2⟩ := S.seq hv hs
  cases dqall_bools h2
  exact ⟨a, bs, rfl, h1, q _ H _ g B al hk S (Dq.bl _)⟩
end
end DL
set_option Elab.async false
set_option linter.all false
set_option maxRecDepth 100000
set_option maxHeartbeats 4000000
set_option autoImplicit false
namespace DL
open PySem PySem.Spec PyProof.Rows L2
variable [Tx]
def wipeG (sl : List (Option R)) : List Nat → List (Option R)
  | [] => sl
  | v :: vs => (wipeG sl vs).set v none
theorem wipeG_length (sl : List (Option R)) : ∀ vs : List Nat, (wipeG sl vs).length = sl.length
  | [] => rfl
  | v :: vs => by unfold wipeG; rw [List.length_set, wipeG_length sl vs]
theorem wipeG_some {sl : List (Option R)} {i : Nat} {x : R} : ∀ {vs : List Nat}, (wipeG sl vs)[i]? = some (some x) → sl[i]? = some (some x) ∧ i ∉ vs
  | [], h => ⟨h, by simp⟩
  | v :: vs, h => by
    unfold wipeG at h
    by_cases hi : v = i
    · subst hi
      by_cases hv : v < (wipeG sl vs).length
      · rw [List.getElem?_set_self hv] at h; cases h
      · rw [List.getElem?_eq_none (by simpa using hv)] at h; cases h
    · rw [List.getElem?_set_ne hi] at h
      obtain ⟨h1, h2⟩ := wipeG_some h
      exact ⟨h1, by simp only [List.mem_cons, not_or]; exact ⟨fun e => hi e.symm, h2⟩⟩
def dLc (di : DI) (dg : DG) (dt : DT) (de : DE) (ws : List Nat) : DE := fun g k => di g fun ds g1 => ∃ I : Nat → List PyData → List Ct → Prop, I 0 [] g1.ce ∧ ∀ i acc ce, I i acc ce →
  (i = ds.length → k (.d (.list acc)) ⟨g1.sl, ce⟩) ∧ ∀ x, ds[i]? = some x → acc.length < 100000 ∧ dg (.d x) ⟨wipeG g1.sl ws, ce⟩ fun g2 => dt g2 fun b g3 =>
    if b = true then de g3 fun y g4 => ∃ d, y = .d d ∧ I (i + 1) (acc ++ [d]) g4.ce else I (i + 1) acc g3.ce
/-- the same, the list an own cell -/
def dLcO (di : DI) (dg : DG) (dt : DT) (de : DE) (ws : List Nat) : DE := fun g k => di g fun ds g1 => ∃ I : Nat → List PyData → List Ct → Prop, I 0 [] g1.ce ∧ ∀ i acc ce, I i acc ce →
  (i = ds.length → k (.o ce.length) ⟨g1.sl, ce ++ [.lst acc]⟩) ∧ ∀ x, ds[i]? = some x → acc.length < 100000 ∧ dg (.d x) ⟨wipeG g1.sl ws, ce⟩ fun g2 => dt g2 fun b g3 =>
    if b = true then de g3 fun y g4 => ∃ d, y = .d d ∧ I (i + 1) (acc ++ [d]) g4.ce else I (i + 1) acc g3.ce
def dYes : DT := fun g k => k true g
abbrev PDTs (ρ : Root) (X : Cx) (ifs : List Expr) (dt : DT) : Prop := PTs X ifs (liftT ⟨X.K, ρ⟩ dt)
section
variable {ρ : Root} {X : Cx} {tg iter elt e c : Expr} {ifs : List Expr} {pos : Pos} {K : KR}
theorem pts_imp {t t' : TT} (h : PTs X ifs t) (i : ∀ s H Q, t' s H Q → t s H Q) : PTs X ifs t' := ⟨fun pins s σ H Q I q => h.run pins s σ H Q I (i σ H Q q)⟩
theorem pdts_nil : PDTs ρ X [] dYes := pts_imp pts_nil fun s H Q ⟨F, g, tm, k, B, al, S, hk, q⟩ => q true H g B al hk S
theorem pdts_one {dt : DT} (h : PDT ρ X c dt) : PDTs ρ X [c] dt := pts_one h
/-- the frame in which the list at D grows -/
def fmLc (F : Fm) (B1 : Hp) (D : Addr) (xs : List V) : Fm := ⟨B1, upd F.O D (.lst xs), F.P⟩
theorem slotTemps {F : Fm} {g : G} {tm : List (V × R)} {s : L2.St} {H B : Hp} {al : List Addr} (S : Stt K F g tm s H B al) : ∃ ts : List (V × R), (∀ p ∈ ts, RvOk K B al p.1 p.2) ∧ ∀ (i : Nat) (r : R), g.sl[i]? = some (some r) → ∃ v, s[i]? = some (some v) ∧ (v, r) ∈ ts := by
  have gen : ∀ n, ∃ ts : List (V × R), (∀ p ∈ ts, RvOk K B al p.1 p.2) ∧ ∀ (i : Nat) (r : R), i < n → g.sl[i]? = some (some r) → ∃ v, s[i]? = some (some v) ∧ (v, r) ∈ ts := by
    intro n
    induction n with
    | zero => exact ⟨[], (fun p hp => nomatch hp), fun i r h => absurd h (Nat.not_lt_zero _)⟩
    | succ n ih =>
      obtain ⟨ts, h1, h2⟩ := ih
      by_cases hn : ∃ r, g.sl[n]? = some (some r)
      · obtain ⟨r, hr⟩ := hn
        obtain ⟨v, hv, hok⟩ := S.sl n r hr
        refine ⟨(v, r) :: ts, fun p hp => ?_, fun i r' hi hr' => ?_⟩
        · rcases List.mem_cons.mp hp with z | z
          · rw [z]; exact hok
          · exact h1 p z
        · by_cases e : i = n
          · subst e
            rw [hr] at hr'
            cases hr'
            exact ⟨v, hv, List.mem_cons_self⟩
          · obtain ⟨v', a, b⟩ := h2 i r' (by omega) hr'
            exact ⟨v', a, List.mem_cons_of_mem _ b⟩
      · refine ⟨ts, h1, fun i r' hi hr' => ?_⟩
        by_cases e : i = n
        · subst e; exact absurd ⟨r', hr'⟩ hn
        · exact h2 i r' (by omega) hr'
  obtain ⟨ts, h1, h2⟩ := gen g.sl.length
  refine ⟨ts, h1, fun i r hr => h2 i r ?_ hr⟩
  exact (List.getElem?_eq_some_iff.mp hr).1
theorem ref_lc {ws : List Nat} {di : DI} {dg : DG} {dt : DT} {de : DE} {own : Bool} : ∀ s H Q, lift K (if own then dLcO di dg dt de ws else dLc di dg dt de ws) s H Q → tLc (liftI K di) (liftG K ws dg) (liftT K dt) (lift K de) ws s H Q := by
  rintro s H Q ⟨F, g, tm, k, B, al, S, hk, q⟩
  have hk' : di g fun ds g1 => ∃ I : Nat → List PyData → List Ct → Prop, I 0 [] g1.ce ∧ ∀ i acc ce, I i acc ce →
    (i = ds.length → k (if own then .o ce.length else .d (.list acc)) (if own then ⟨g1.sl, ce ++ [.lst acc]⟩ else ⟨g1.sl, ce⟩)) ∧ ∀ x, ds[i]? = some x → acc.length < 100000 ∧ dg (.d x) ⟨wipeG g1.sl ws, ce⟩ fun g2 => dt g2 fun b g3 =>
      if b = true then de g3 fun y g4 => ∃ d, y = .d d ∧ I (i + 1) (acc ++ [d]) g4.ce else I (i + 1) acc g3.ce := by
    cases own with
    | true => exact hk
    | false => exact hk
  refine ⟨F, g, tm, _, B, al, S, hk', fun J H1 ds g1 B1 al1 ⟨I, i0, turn⟩ S1 wk => ?_⟩
  intro D hD
  have nD : D ∉ al1 := S1.new_out hD
  have bD : B1 D = none := S1.bh.free hD
  obtain ⟨ts, ts1, ts2⟩ := slotTemps S1
  have hrb : Same K.rt.B B1 := S1.rb.trans S1.fb
  have hro : ∀ (xs : List V) a o, K.rt.O a = some o → (fmLc F B1 D xs).O a = some o := fun xs a o e => by
    have e1 := S1.ro a o e
    have ne : a ≠ D := fun z => by
      have z2 := (S1.fo a o e1).1
      rw [z, hD] at z2
      cases z2
    show upd F.O D (.lst xs) a = some o
    rw [upd_ne ne]
    exact e1
  -- the state within
  have start : Stt K (fmLc F B1 D []) ⟨wipeG g1.sl ws, g1.ce⟩ (ts ++ tm) (wipe s ws) (upd H1 D (.lst [])) B1 al1 := by
    have eH : Same H1 (upd H1 D (.lst [])) := same_new hD
    refine { tx := S.tx, rb := hrb, ro := hro _, rp := S.rp, ot := (fun a us e => by
        by_cases ha : a = D
        · subst ha
          have e' : upd F.O a (.lst []) a = some (.tup us) := e
          rw [upd_same] at e'; cases e'
        · have e' : upd F.O D (.lst []) a = some (.tup us) := e
          rw [upd_ne ha] at e'; exact S.ot a us e'), fb := Same.refl _, bh := S1.bh.trans eH, fo := ?_, pre := S1.pre, len := S1.len, nd := S1.nd, lv := ?_, nb := S1.nb, ce := ?_, sl := ?_, tm := ?_, sln := ?_ }
    · intro a o e
      by_cases ha : a = D
      · subst ha
        have e' : upd F.O a (.lst []) a = some o := e
        rw [upd_same] at e' ⊢
        exact ⟨e', bD, nD⟩
      · have e' : upd F.O D (.lst []) a = some o := e
        rw [upd_ne ha] at e'
        obtain ⟨h1, h2, h3⟩ := S1.fo a o e'
        exact ⟨eH _ _ h1, h2, h3⟩
    · intro a ha
      obtain ⟨o, e⟩ := S1.lv a ha
      exact ⟨o, eH _ _ e⟩
    · intro j a ct h1 h2
      exact ct_mono0 (Same.refl _) (fun o e => eH _ _ e) (S1.ce j a ct h1 h2)
    · intro i r e
      obtain ⟨e1, e2⟩ := wipeG_some e
      obtain ⟨v, h1, h2⟩ := S1.sl i r e1
      exact ⟨v, by rw [wipe_out e2]; exact h1, h2⟩
    · intro p hp
      rcases List.mem_append.mp hp with z | z
      · exact ts1 p z
      · exact S1.tm p z
    · rw [wipeG_length, wipe_length]; exact S1.sln
  have dqT : ∀ {F' : Fm} {g' : G} {xs : List V} {acc : List PyData} {s' : L2.St} {H' B' : Hp} {al' : List Addr}, xs.length = acc.length → Stt K F' g' (xs.zip (acc.map R.d) ++ (ts ++ tm)) s' H' B' al' → DqAll B' xs acc := fun {F' g' xs acc s' H' B' al'} hl Z =>
    dqall_paired (K := K) (al := al') (paired_of (by rw [List.length_map]; exact hl) fun p hp => Z.tm p (List.mem_append_left _ hp))
  refine ⟨fun i m H => m = ds.length - i ∧ i ≤ ds.length ∧ ∃ acc xs ce B al, I i acc ce ∧ xs.length = acc.length ∧ Stt K (fmLc F B1 D xs) ⟨wipeG g1.sl ws, ce⟩ (xs.zip (acc.map R.d) ++ (ts ++ tm)) (wipe s ws) H B al, ⟨ds.length, rfl, Nat.zero_le _, [], [], g1.ce, B1, al1, i0, rfl, start⟩, ?_⟩
  rintro i m H2 ⟨rfl, hi, acc, xs, ce, B2, al2, hI, hx, S2⟩
  obtain ⟨t1, t2⟩ := turn i acc ce hI
  have dO : H2 D = some (.lst xs) ∧ B2 D = none ∧ D ∉ al2 := S2.fo D _ upd_same
  obtain ⟨w1, w2⟩ := wk _ _ _ (wipe s ws) H2 B2 al2 i S2 S2.fb
  by_cases hlt : i < ds.length
  · have hget : ds[i]? = some ds[i] := List.getElem?_eq_getElem hlt
    obtain ⟨go, yl⟩ := w1 _ hget
    obtain ⟨hz, hk2⟩ := t2 _ hget
    refine .inr ⟨go, fun H => ∃ acc xs ce B al, I (i + 1) acc ce ∧ xs.length = acc.length ∧ Stt K (fmLc F B1 D xs) ⟨wipeG g1.sl ws, ce⟩ (xs.zip (acc.map R.d) ++ (ts ++ tm)) (wipe s ws) H B al, fun H' ⟨acc', xs', ce', B', al', a1, a2, a3⟩ => ⟨ds.length - (i + 1), by omega, rfl, hlt, acc', xs', ce', B', al', a1, a2, a3⟩, fun x H3 hy => ?_⟩
    obtain ⟨B3, S3, e3, hd⟩ := yl x H3 hy
    -- the slots outside are as they were
    have back : ∀ {F' : Fm} {tm' : List (V × R)} {sl' : List (Option R)} {ce' : List Ct} {s' : L2.St} {H' B' : Hp} {al' : List Addr}, (∀ p ∈ ts, p ∈ tm') → Stt K F' ⟨sl', ce'⟩ tm' s' H' B' al' → Stt K F' ⟨wipeG g1.sl ws, ce'⟩ tm' (wipe s ws) H' B' al' := fun {F' tm' sl' ce' s' H' B' al'} hts Z =>
      { Z with
        sl := fun i r e => by
          obtain ⟨e1, e2⟩ := wipeG_some e
          obtain ⟨v, h1, h2⟩ := ts2 i r e1
          exact ⟨v, by rw [wipe_out e2]; exact h1, Z.tm _ (hts _ h2)⟩
        sln := by rw [wipeG_length, wipe_length]; exact S1.sln }
    refine ⟨_, _, _, .d _, _, B3, al2, S3, hd, hk2, fun s4 H4 g4 B4 al4 hk4 S4 wz => ⟨?_, ?_⟩⟩
    · rw [wz]
      refine List.ext_getElem? fun j => ?_
      by_cases hj : j ∈ ws
      · have gen : ∀ (us : List Nat) (q : L2.St), j ∈ us → (wipe q us)[j]? = if j < q.length then some none else none := by
          intro us
          induction us with
          | nil => intro q h; cases h
          | cons u us ih =>
            intro q h
            unfold wipe
            by_cases e : u = j
            · subst e
              by_cases hl : u < q.length
              · rw [List.getElem?_set_self (by rw [wipe_length]; exact hl), if_pos hl]
              · rw [List.getElem?_eq_none (by rw [List.length_set, wipe_length]; omega), if_neg hl]
            · rw [List.getElem?_set_ne e]
              refine ih q ?_
              rcases List.mem_cons.mp h with z | z
              · exact absurd z.symm e
              · exact z
        rw [gen ws _ hj, gen ws _ hj, wipe_length]
      · rw [wipe_out hj]
    · refine ⟨_, g4, _, _, B4, al4, S4, hk4, fun b H5 g5 B5 al5 hk5 S5 => ?_⟩
      cases b with
      | false =>
        have hk5 : I (i + 1) acc g5.ce := hk5
        exact iteF ⟨acc, xs, g5.ce, B5, al5, hk5, hx, back (fun p hp => List.mem_append_right _ (List.mem_append_left _ hp)) S5⟩
      | true =>
        refine iteT ⟨_, g5, _, _, B5, al5, S5, hk5, fun y H6 r6 g6 B6 al6 hk6 S6 => ?_⟩
        obtain ⟨d, er, hk6⟩ := hk6
        subst er
        have dO6 : H6 D = some (.lst xs) ∧ B6 D = none ∧ D ∉ al6 := S6.fo D _ upd_same
        have hy6 : Dq B6 y d := S6.top rfl
        refine ⟨xs, dO6.1, by rw [hx]; exact sz_lt hz, acc ++ [d], xs ++ [y], g6.ce, B6, al6, hk6, by rw [List.length_append, List.length_append, hx]; rfl, ?_⟩
        have Z := back (fun p hp => List.mem_cons_of_mem _ (List.mem_append_right _ (List.mem_append_left _ hp))) S6
        refine { tx := S.tx, rb := hrb, ro := hro _, rp := S.rp, ot := (fun a us e => by
        by_cases ha : a = D
        · subst ha
          have e' : upd F.O a (.lst (xs ++ [y])) a = some (.tup us) := e
          rw [upd_same] at e'; cases e'
        · have e' : upd F.O D (.lst (xs ++ [y])) a = some (.tup us) := e
          rw [upd_ne ha] at e'; exact S.ot a us e'), fb := Z.fb, bh := same_mut Z.bh dO6.2.1, fo := ?_, pre := Z.pre, len := Z.len, nd := Z.nd, lv := ?_, nb := Z.nb, ce := ?_, sl := Z.sl, tm := ?_, sln := Z.sln }
        · intro a o e
          by_cases ha : a = D
          · subst ha
            have e' : upd F.O a (.lst (xs ++ [y])) a = some o := e
            rw [upd_same] at e' ⊢
            exact ⟨e', dO6.2.1, dO6.2.2⟩
          · have e' : upd F.O D (.lst (xs ++ [y])) a = some o := e
            rw [upd_ne ha] at e' ⊢
            exact Z.fo a o (show upd F.O D (.lst xs) a = some o by rw [upd_ne ha]; exact e')
        · intro a ha
          have ne : a ≠ D := fun z => dO6.2.2 (z ▸ ha)
          rw [upd_ne ne]
          exact Z.lv a ha
        · intro j a ct h1 h2
          have ne : a ≠ D := fun z => dO6.2.2 (z ▸ List.mem_of_getElem? h1)
          exact ct_mono0 (Same.refl _) (fun o e => by rw [upd_ne ne]; exact e) (Z.ce j a ct h1 h2)
        · intro p hp
          rcases List.mem_append.mp hp with z | z
          · rw [List.map_append, List.zip_append (by rw [List.length_map]; exact hx)] at z
            rcases List.mem_append.mp z with z | z
            · exact Z.tm p (List.mem_cons_of_mem _ (List.mem_append_left _ z))
            · have e : p = (y, R.d d) := List.mem_singleton.mp z
              rw [e]
              exact hy6
          · exact Z.tm p (List.mem_cons_of_mem _ (List.mem_append_right _ z))
  · have e : i = ds.length := by omega
    refine .inl ⟨w2 e, ?_⟩
    have hd := dqT hx S2
    have hk3 := t1 e
    have tsl : ∀ {B' : Hp} {al' : List Addr}, (∀ p ∈ ts ++ tm, RvOk K B' al' p.1 p.2) → ∀ (i : Nat) (r : R), g1.sl[i]? = some (some r) → ∃ v, s[i]? = some (some v) ∧ RvOk K B' al' v r := fun {B' al'} h i r er => by
      obtain ⟨v, h1, h2⟩ := ts2 i r er
      exact ⟨v, h1, h _ (List.mem_append_left _ h2)⟩
    have tmo : ∀ p ∈ ts ++ tm, RvOk K B2 al2 p.1 p.2 := fun p hp => S2.tm p (List.mem_append_right _ hp)
    have foo : ∀ a o, F.O a = some o → H2 a = some o ∧ B2 a = none ∧ a ∉ al2 ∧ a ≠ D := fun a o ha => by
      have ne : a ≠ D := fun z => by
        subst z
        have := (S1.fo a o ha).1
        rw [hD] at this
        cases this
      obtain ⟨h1, h2, h3⟩ := S2.fo a o (show upd F.O D (.lst xs) a = some o by rw [upd_ne ne]; exact ha)
      exact ⟨h1, h2, h3, ne⟩
    have eB : Same B2 (upd B2 D (.lst xs)) := same_new dO.2.1
    cases own with
    | false =>
      refine q _ _ _ _ (upd B2 D (.lst xs)) al2 hk3 ?_
      refine { tx := S.tx, rb := S.rb, ro := S.ro, rp := S.rp, ot := S.ot, fb := (S1.fb.trans S2.fb).trans eB, bh := ?_, fo := ?_, pre := S2.pre, len := S2.len, nd := S2.nd, lv := S2.lv, nb := ?_, ce := ?_, sl := ?_, tm := ?_, sln := S1.sln }
      · intro a o ea
        by_cases ha : a = D
        · subst ha; rw [upd_same] at ea; cases ea; exact dO.1
        · rw [upd_ne ha] at ea; exact S2.bh _ _ ea
      · intro a o ha
        obtain ⟨h1, h2, h3, h4⟩ := foo a o ha
        exact ⟨h1, by rw [upd_ne h4]; exact h2, h3⟩
      · intro j a ct h1 h2 h3
        have ne : a ≠ D := fun z => dO.2.2 (z ▸ List.mem_of_getElem? h1)
        rw [upd_ne ne]
        exact S2.nb j a ct h1 h2 h3
      · intro j a ct h1 h2
        exact ct_mono0 eB (fun o e => e) (S2.ce j a ct h1 h2)
      · exact tsl fun p hp => rv_mono0 eB (tmo p hp)
      · intro p hp
        rcases List.mem_cons.mp hp with z | z
        · rw [z]
          exact Dq.lst upd_same (dqall_mono eB hd)
        · exact rv_mono0 eB (tmo p (List.mem_append_right _ z))
    | true =>
      have S3 : Stt K F ⟨g1.sl, ce⟩ tm s H2 B2 al2 := { tx := S1.tx, rb := S1.rb, ro := S1.ro, rp := S1.rp, ot := S1.ot, fb := S1.fb.trans S2.fb, bh := S2.bh, fo := (fun a o ha => let ⟨h1, h2, h3, _⟩ := foo a o ha; ⟨h1, h2, h3⟩), pre := S2.pre, len := S2.len, nd := S2.nd, lv := S2.lv, nb := S2.nb, ce := S2.ce, sl := tsl tmo, tm := (fun p hp => tmo p (List.mem_append_right _ hp)), sln := S1.sln }
      obtain ⟨t, ht⟩ := S3.pre
      refine q _ _ _ _ B2 (al2 ++ [D]) hk3 ?_
      refine { tx := S.tx, rb := S.rb, ro := S.ro, rp := S.rp, ot := S.ot, fb := S3.fb, bh := S3.bh, fo := ?_, pre := ⟨t ++ [D], by rw [ht, List.append_assoc]⟩, len := by show (al2 ++ [D]).length = (ce ++ [Ct.lst acc]).length; rw [List.length_append, List.length_append, S3.len]; rfl, nd := ?_, lv := ?_, nb := ?_, ce := ?_, sl := ?_, tm := ?_, sln := S1.sln }
      · intro a o ha
        obtain ⟨h1, h2, h3, h4⟩ := foo a o ha
        refine ⟨h1, h2, fun z => ?_⟩
        rcases List.mem_append.mp z with z | z
        · exact h3 z
        · exact h4 (List.mem_singleton.mp z)
      · refine List.nodup_append.mpr ⟨S3.nd, by simp, fun a ha b hb => ?_⟩
        rw [List.mem_singleton.mp hb]
        exact fun z => dO.2.2 (z ▸ ha)
      · intro a ha
        rcases List.mem_append.mp ha with z | z
        · exact S3.lv a z
        · rw [List.mem_singleton.mp z]; exact ⟨_, dO.1⟩
      · intro j a ct h1 h2 h3
        have h2 : (ce ++ [Ct.lst acc])[j]? = some ct := h2
        have hln : al2.length = ce.length := S3.len
        by_cases hj : j < al2.length
        · rw [List.getElem?_append_left hj] at h1
          rw [List.getElem?_append_left (by omega)] at h2
          exact S3.nb j a ct h1 h2 h3
        · rw [List.getElem?_append_right (by omega)] at h1
          rw [List.mem_singleton.mp (List.mem_of_getElem? h1)]
          exact dO.2.1
      · intro j a ct h1 h2
        have h2 : (ce ++ [Ct.lst acc])[j]? = some ct := h2
        have hln : al2.length = ce.length := S3.len
        by_cases hj : j < al2.length
        · rw [List.getElem?_append_left hj] at h1
          rw [List.getElem?_append_left (by omega)] at h2
          exact ct_mono (Same.refl _) (fun o e => e) (S3.ce j a ct h1 h2)
        · rw [List.getElem?_append_right (by omega)] at h1
          rw [List.getElem?_append_right (by omega)] at h2
          have e1 : a = D := List.mem_singleton.mp (List.mem_of_getElem? h1)
          have e2 : ct = .lst acc := List.mem_singleton.mp (List.mem_of_getElem? h2)
          subst e1 e2
          exact ⟨xs, dO.1, hd⟩
      · intro i r er
        obtain ⟨v, h1, h2⟩ := S3.sl i r er
        exact ⟨v, h1, rv_mono (Same.refl _) h2⟩
      · intro p hp
        rcases List.mem_cons.mp hp with z | z
        · rw [z]
          refine ⟨D, ?_, rfl⟩
          show (al2 ++ [D])[ce.length]? = some D
          have hln : al2.length = ce.length := S3.len
          rw [← hln, List.getElem?_append_right (Nat.le_refl _), Nat.sub_self]
          rfl
        · exact rv_mono (Same.refl _) (S3.tm p z)
end
section
variable {ρ : Root} {X : Cx} {tg iter elt : Expr} {ifs : List Expr} {pos : Pos} {scope : Scope} {own : List (Str × Nat)} {di : DI} {dg : DG} {dt : DT} {de : DE}
theorem pd_lc (hc : X.calm = true) (hN : X.N.Nodup) (hi : PDI ρ X tg iter di) (ok : BlkOk X.N X.env.scope scope own)
    (hg : ∀ (s : Shared) (H : Hp) (C : Addr) (cl : List (Str × Addr)) (fp : List Addr), PDG ρ (X.blk s H scope (compEnvC scope cl C X.env) fp) (own.map (·.2)) tg dg)
    (ht : ∀ (s : Shared) (H : Hp) (C : Addr) (cl : List (Str × Addr)) (fp : List Addr), PDTs ρ (X.blk s H scope (compEnvC scope cl C X.env) fp) ifs dt)
    (he : ∀ (s : Shared) (H : Hp) (C : Addr) (cl : List (Str × Addr)) (fp : List Addr), PD ρ (X.blk s H scope (compEnvC scope cl C X.env) fp) elt de) (hs : ∀ x, foldedSetIterable iter X.env x = pure x := by intro _; rfl) :
    PD ρ X (.ListComp elt [⟨tg, iter, ifs, 0⟩] scope pos) (dLc di dg dt de (own.map (·.2))) := pe_imp (pe_lc hc hN hi ok hg ht he hs) fun s H Q h => ref_lc (own := false) s H Q h
theorem pd_lcO (hc : X.calm = true) (hN : X.N.Nodup) (hi : PDI ρ X tg iter di) (ok : BlkOk X.N X.env.scope scope own)
    (hg : ∀ (s : Shared) (H : Hp) (C : Addr) (cl : List (Str × Addr)) (fp : List Addr), PDG ρ (X.blk s H scope (compEnvC scope cl C X.env) fp) (own.map (·.2)) tg dg)
    (ht : ∀ (s : Shared) (H : Hp) (C : Addr) (cl : List (Str × Addr)) (fp : List Addr), PDTs ρ (X.blk s H scope (compEnvC scope cl C X.env) fp) ifs dt)
    (he : ∀ (s : Shared) (H : Hp) (C : Addr) (cl : List (Str × Addr)) (fp : List Addr), PD ρ (X.blk s H scope (compEnvC scope cl C X.env) fp) elt de) (hs : ∀ x, foldedSetIterable iter X.env x = pure x := by intro _; rfl) :
    PD ρ X (.ListComp elt [⟨tg, iter, ifs, 0⟩] scope pos) (dLcO di dg dt de (own.map (·.2))) := pe_imp (pe_lc hc hN hi ok hg ht he hs) fun s H Q h => ref_lc (own := true) s H Q h
end
end DL
set_option Elab.async false
set_option linter.all false
set_option maxRecDepth 100000
set_option maxHeartbeats 4000000
set_option autoImplicit false
namespace DL
open PySem PySem.Spec PyProof.Rows L2
structure Calm (k : Nat) (A : Around) : Prop where
  room : Room k A
  gds : A.guards = some []
theorem Calm.mono {j k : Nat} {A : Around} (c : Calm k A) (h : j ≤ k) : Calm j A := ⟨c.room.mono h, c.gds⟩
theorem Calm.units {k : Nat} {A : Around} (c : Calm k A) : A.units + 64 < cLine := c.room.units
theorem Calm.deeper {k : Nat} {A : Around} (c : Calm (k + 1) A) (env : Env) : Calm k (A.deeper env) := ⟨c.room.deeper env, c.gds⟩
structure FnG (P : Program) (w : World) (K : PySem.W.Frag) (mg : Str → Option Value) (base : Heap) (CX : CXT) (k : Nat) (f : Addr) (fd : FuncData) (ps : List Str) (sp : Sp) : Prop where
  count : ∀ vs H Q E, sp vs H Q E → vs.length = ps.length
  goes : ∀ (A : Around) (fr : List Env) (s : Shared) (H : Hp) (as : Args) (us : List Value) (vs : List V) (Q : VK) (E : XK), Calm k A → Env0 P w K mg base A fr s H → BindsTo s fd as (ps.zip us) → Vals vs us → sp vs H Q E →
    codeAny (model P w) A (.call (.ref f) as) (CR CX fr P w H s Q E) s
theorem FnG.mono {P : Program} {w : World} {K : PySem.W.Frag} {mg : Str → Option Value} {base : Heap} {CX : CXT} {j k : Nat} {f : Addr} {fd : FuncData} {ps : List Str} {sp : Sp} (G : FnG P w K mg base CX j f fd ps sp) (h : j ≤ k) : FnG P w K mg base CX k f fd ps sp :=
  ⟨G.count, fun A fr s H as us vs Q E c => G.goes A fr s H as us vs Q E (c.mono h)⟩
/-- by its body -/
theorem Fun.goes {CX : CXT} {P : Program} {w : World} {K : PySem.W.Frag} {mg : Str → Option Value} {base : Heap} {k : Nat} {x qual : Str} {st : Stmt} {f : Addr} {fd : FuncData} {N ps : List Str} {sp : Sp} (F : Fun K x qual st f fd) (S : FnScope N ps (defScope st))
    (count : ∀ vs H Q E, sp vs H Q E → vs.length = ps.length)
    (inside : ∀ (cdv : Value) (A : Around) (fr : List Env) (s : Shared) (H : Hp) (vs : List V) (Q : VK) (E : XK), Calm k (A.deeper (envOfC qual (defScope st) s.heap.objs.size f cdv)) → sp vs H Q E →
      ∃ t, PSs (cxOf CX P w K mg base N qual (defScope st) f cdv A fr s H E) (defBody st) t ∧ t { nx := fun _ H' => Q .non H', rt := Q } (start N vs) H) : FnG P w K mg base CX (k + 1) f fd ps sp := by
  obtain ⟨oc, od, kV, doc, pm, an, cdv, ct, osl, rfl, here, code⟩ := F.ex
  refine ⟨count, fun A fr s H as us vs Q E c env0 bnd rel want => ?_⟩
  have same : ∀ b o, base.get? b = some o → s.heap.get? b = some o := fun b o q => (env0.bs b o q).1
  have inK : K.In s.heap := env0.mod.kin.keeps same
  have noLim : s.heap.NoLimit := env0.mod.nolimit.keeps same
  refine codeAny_call_function c.room.depth (inK _ _ here) rfl S.co S.gen rfl (PySem.W.codeRec_of inK code) (bnd _ _ _ _ ?_)
  refine wpAny_newFunctionEnv_cells S.kind (fun ⟨n, v⟩ hy => (S.par n (List.of_mem_zip hy).1).elim .inl fun q => .inr ⟨q, PySem.W.cellsFrom_some _ _ _ (.inl q)⟩) fun env he s1 made => ?_
  subst he
  refine ⟨noLim.keeps made.toInCall.keep, codeAny_func ?_⟩
  obtain ⟨t, walk, ends⟩ := inside cdv A fr s H vs Q E (c.deeper _) want
  have I0 := inv_start (CX := CX) (E := E) S c.room.hd env0 (count _ _ _ _ want) rel made
  refine wpAny_mono (walk.run [] s1 (start N vs) H _ I0 ends) (fun fl s' q => ?_) fun e s' q => q
  cases fl with
  | ret u =>
    obtain ⟨v, σ', H', J, rv, hq⟩ := q
    exact ⟨v, H', J.os, J.bare, J.base, J.hok, rv, hq⟩
  | next =>
    obtain ⟨σ', H', J, hq⟩ := q
    exact ⟨.non, H', J.os, J.bare, J.base, J.hok, rfl, hq⟩
  | brk => exact q.elim fun _ ⟨_, _, z⟩ => (show False from z).elim
  | cont => exact q.elim fun _ ⟨_, _, z⟩ => (show False from z).elim
section
variable {X : Cx} {CX : CXT} {k : Nat} {f : Addr} {fd : FuncData} {ps : List Str} {sp : Sp} {E : XK} {x : Str} {p pos : Pos} {e : Expr} {es : List Expr} {t : TA}
theorem runs_G {pins : List (Addr × Obj)} {σ : L2.St} {H : Hp} {s : Shared} {Q : VK} {as : Args} {us : List Value} {vs : List V} (G : FnG X.prog X.w X.K X.mg X.base CX k f fd ps sp) (c : Calm k X.A) (I : Inv X pins σ H s) (hx : ∀ v s', CX X.stack H s E v s' → X.xe v s') (bnd : BindsTo s fd as (ps.zip us)) (r : Vals vs us) (h : sp vs H Q E) :
    wpAny (model X.prog X.w) X.A (call (.ref f) as.pos as.kw) (EP X pins σ Q) X.xe s := by
  refine wpAny_call (codeAny_mono (G.goes X.A X.stack s H as us vs Q E c I.env0 bnd r h) fun res s' q => ?_)
  cases res with
  | error v => exact hx v s' q
  | ok fl =>
    cases fl with
    | ret u => exact I.after q
    | next => exact q.elim
    | brk => exact q.elim
    | cont => exact q.elim
end
end DL
set_option Elab.async false
set_option linter.all false
set_option maxRecDepth 100000
set_option maxHeartbeats 4000000
set_option autoImplicit false
namespace DL
open PySem PySem.Spec PyProof.Rows L2
variable [Tx]
inductive Res where
  | dat (x : PyData)
  | newC (ct : Ct)
  | shC (ct : Ct)
def XnOk (K : KR) (B : Hp) (n : Xn) (cls : Value) (d : Option Addr) : Prop := cls = .ref (K.rt.cl n.cls) ∧ XnF B n d
abbrev kAt (fr : PySem.W.Frag) (cl : Str → Addr) (B O : Hp) (P : List Addr) : KR := ⟨fr, ⟨B, O, P, cl⟩⟩
def ResOk (B : Hp) (al : List Addr) (ce : List Ct) (n : Nat) (v : V) : Res → Prop
  | .dat x => Dq B v x
  | .shC ct => ∃ a, v = .ref a ∧ flat ct = true ∧ ∃ K al, CtOk K B al B a ct
  | .newC ct => ∃ j p, n ≤ j ∧ al[j]? = some p ∧ v = .ref p ∧ ce[j]? = some ct ∧ flat ct = true
def noO : R → Bool
  | .o _ => false
  | _ => true
def liftX (K : KR) (dx : Xn → G → Prop) : WX := fun cls d σ H => ∃ F g tm B al n, Stt K F g tm σ H B al ∧ dx n g ∧ XnOk K B n cls d
def g0 (n : Nat) (rs : List R) (ce : List Ct) : G := ⟨rs.map some ++ List.replicate (n - rs.length) none, ce⟩
section
variable {K : KR} {F : Fm} {g : G} {tm : List (V × R)} {s : L2.St} {H B : Hp} {al : List Addr}
theorem Stt.bare (S : Stt K F g tm s H B al) : Stt K F ⟨[], g.ce⟩ [] [] H B al :=
  { S with sl := (fun i r e => by simp at e), tm := (fun p hp => nomatch hp), sln := rfl }
theorem Stt.adoptO (S : Stt K F g tm s H B al) {p : Addr} {ct : Ct} (hp : ∃ o, H p = some o) (hb : B p = none) (ha : p ∉ al) (ho : F.O p = none) (hc : CtOk K B al H p ct) : Stt K F { g with ce := g.ce ++ [ct] } tm s H B (al ++ [p]) := by
  obtain ⟨t, ht⟩ := S.pre
  refine { rb := S.rb, ro := S.ro, rp := S.rp, ot := S.ot, fb := S.fb, bh := S.bh, fo := ?_, pre := ⟨t ++ [p], by rw [ht, List.append_assoc]⟩, len := by rw [List.length_append, List.length_append, S.len]; rfl, nd := ?_, lv := ?_, nb := ?_, ce := ?_, sl := ?_, tm := ?_, sln := S.sln, tx := S.tx }
  · intro a o e
    obtain ⟨h1, h2, h3⟩ := S.fo a o e
    refine ⟨h1, h2, fun z => ?_⟩
    rcases List.mem_append.mp z with z | z
    · exact h3 z
    · rw [List.mem_singleton.mp z, ho] at e; cases e
  · refine List.nodup_append.mpr ⟨S.nd, by simp, fun a ha' b hb' => ?_⟩
    rw [List.mem_singleton.mp hb']
    exact fun z => ha (z ▸ ha')
  · intro a ha'
    rcases List.mem_append.mp ha' with z | z
    · exact S.lv a z
    · rw [List.mem_singleton.mp z]; exact hp
  · intro j a c h1 h2 h3
    by_cases hj : j < al.length
    · rw [List.getElem?_append_left hj] at h1
      rw [List.getElem?_append_left (by rw [← S.len]; exact hj)] at h2
      exact S.nb j a c h1 h2 h3
    · rw [List.getElem?_append_right (by omega)] at h1
      rw [List.mem_singleton.mp (List.mem_of_getElem? h1)]
      exact hb
  · intro j a c h1 h2
    by_cases hj : j < al.length
    · rw [List.getElem?_append_left hj] at h1
      rw [List.getElem?_append_left (by rw [← S.len]; exact hj)] at h2
      exact ct_mono (Same.refl _) (fun o e => e) (S.ce j a c h1 h2)
    · rw [List.getElem?_append_right (by omega)] at h1
      rw [List.getElem?_append_right (by rw [← S.len]; omega)] at h2
      have e1 : a = p := List.mem_singleton.mp (List.mem_of_getElem? h1)
      have e2 : c = ct := List.mem_singleton.mp (List.mem_of_getElem? h2)
      subst e1 e2
      exact ct_mono (Same.refl _) (fun o e => e) hc
  · intro i r e
    obtain ⟨v, h1, h2⟩ := S.sl i r e
    exact ⟨v, h1, rv_mono (Same.refl _) h2⟩
  · intro q hq
    exact rv_mono (Same.refl _) (S.tm q hq)
/-- seen from the root -/
theorem Stt.root (S : Stt K F g tm s H B al) : Stt K ⟨K.rt.B, K.rt.O, K.rt.P⟩ ⟨[], g.ce⟩ [] [] H B al := by
  have S' := S.bare
  exact { S' with rb := Same.refl _, ro := (fun _ _ e => e), rp := ⟨[], (List.append_nil _).symm⟩, ot := (fun a us e => S.ot a us (S.ro a _ e)), fb := S.rb.trans S.fb, fo := (fun a o e => S.fo a o (S.ro a o e)), pre := (by obtain ⟨t, ht⟩ := S.pre; obtain ⟨u, hu⟩ := S.rp; exact ⟨u ++ t, by rw [ht, hu, List.append_assoc]⟩) }
end
theorem paired_get {K : KR} {B : Hp} {al : List Addr} : ∀ {vs : List V} {rs : List R} {i : Nat} {r : R}, Paired (RvOk K B al) vs rs → rs[i]? = some r → ∃ v, vs[i]? = some v ∧ RvOk K B al v r
  | _, _, _, _, .nil, e => by simp at e
  | _, _, 0, _, .cons a _, e => by
    simp at e
    subst e
    exact ⟨_, rfl, a⟩
  | _, _, i + 1, r, .cons _ t, e => by
    obtain ⟨v, h1, h2⟩ := paired_get (i := i) (r := r) t (by simpa using e)
    exact ⟨v, by simpa using h1, h2⟩
theorem stt_start {K : KR} {F : Fm} {H B : Hp} {al : List Addr} {ce : List Ct} {N : List Str} {vs : List V} {rs : List R} (S : Stt K F ⟨[], ce⟩ [] [] H B al) (h : Paired (RvOk K B al) vs rs) : Stt K F (g0 N.length rs ce) [] (start N vs) H B al := by
  refine { S with sl := ?_, tm := (fun p hp => nomatch hp), sln := ?_ }
  · intro i r e
    unfold g0 at e
    have hi : i < rs.length := by
      by_cases hi : i < rs.length
      · exact hi
      · have e' : (rs.map some ++ List.replicate (N.length - rs.length) none)[i]? = some (some r) := e
        rw [List.getElem?_append_right (by simpa using hi), List.getElem?_replicate] at e'
        split at e' <;> cases e'
    have e' : (rs.map some ++ List.replicate (N.length - rs.length) none)[i]? = some (some r) := e
    rw [List.getElem?_append_left (by simpa using hi), List.getElem?_map] at e'
    cases er : rs[i]? with
    | none => rw [er] at e'; cases e'
    | some r' =>
      rw [er] at e'
      cases e'
      obtain ⟨v, h1, h2⟩ := paired_get h er
      refine ⟨v, ?_, h2⟩
      unfold L2.start
      rw [List.getElem?_append_left (by rw [List.length_map]; exact (List.getElem?_eq_some_iff.mp h1).1), List.getElem?_map, h1]
      rfl
  · show (rs.map some ++ List.replicate (N.length - rs.length) none).length = (start N vs).length
    unfold L2.start
    rw [List.length_append, List.length_append, List.length_map, List.length_map, List.length_replicate, List.length_replicate, h.length]
section
variable {K : KR} {F : Fm} {g : G} {tm : List (V × R)} {s : L2.St} {H B : Hp} {al : List Addr}
/-- what the callee must leave alone -/
def ownN (F : Fm) (H B : Hp) (al : List Addr) : Hp := fun a => if (al.contains a && (B a).isNone) = true then H a else F.O a
theorem ownN_in {a : Addr} (ha : a ∈ al) (hb : B a = none) : ownN F H B al a = H a := by
  unfold ownN
  rw [if_pos (by rw [hb, Bool.and_eq_true]; exact ⟨List.contains_iff_mem.mpr ha, rfl⟩)]
theorem ownN_out {a : Addr} (ha : a ∉ al) : ownN F H B al a = F.O a := by
  unfold ownN
  rw [if_neg (fun z => ha (List.contains_iff_mem.mp (Bool.and_eq_true_iff.mp z).1))]
theorem ownN_old {a : Addr} (ha : B a ≠ none) : ownN F H B al a = F.O a := by
  unfold ownN
  rw [if_neg (fun z => ha (Option.isNone_iff_eq_none.mp (Bool.and_eq_true_iff.mp z).2))]
theorem Stt.box (S : Stt K F g tm s H B al) {a : Addr} (ha : a ∈ al) : ∀ us, H a ≠ some (.tup us) := by
  obtain ⟨j, hj, e⟩ := List.getElem_of_mem ha
  have e1 : al[j]? = some a := by rw [List.getElem?_eq_getElem hj, e]
  have hj' : j < g.ce.length := by rw [← S.len]; exact hj
  have e2 : g.ce[j]? = some (g.ce[j]'hj') := List.getElem?_eq_getElem hj'
  obtain ⟨o, h1, h2⟩ := ct_box (S.ce j a _ e1 e2)
  intro us h
  rw [h1] at h
  cases h
  exact h2 us rfl
theorem ownN_tup (S : Stt K F g tm s H B al) : ∀ a us, ownN F H B al a ≠ some (.tup us) := fun a us e => by
  by_cases ha : a ∈ al
  · cases hb : B a with
    | none => rw [ownN_in ha hb] at e; exact S.box ha us e
    | some u => rw [ownN_old (by rw [hb]; simp)] at e; exact S.ot a us e
  · rw [ownN_out ha] at e; exact S.ot a us e
theorem call_in (S : Stt K F g tm s H B al) : Stt (kAt K.fr K.rt.cl B (ownN F H B al) []) ⟨B, ownN F H B al, []⟩ ⟨[], []⟩ [] [] H B [] := by
  refine { tx := S.tx, rb := Same.refl _, ro := (fun _ _ e => e), rp := ⟨[], (List.append_nil _).symm⟩, ot := ownN_tup S, fb := Same.refl _, bh := S.bh, fo := ?_, pre := ⟨[], rfl⟩, len := rfl, nd := List.nodup_nil, lv := (fun a ha => nomatch ha), nb := (fun j a ct h => by simp at h), ce := (fun j a ct h => by simp at h), sl := (fun i r h => by simp at h), tm := (fun p hp => nomatch hp), sln := rfl }
  intro a o e
  by_cases ha : a ∈ al
  · cases hb : B a with
    | none =>
      have e' : ownN F H B al a = some o := e
      rw [ownN_in ha hb] at e'
      exact ⟨e', rfl, by simp⟩
    | some u =>
      have e' : ownN F H B al a = some o := e
      rw [ownN_old (by rw [hb]; simp)] at e'
      exact absurd ha (S.fo a o e').2.2
  · have e' : ownN F H B al a = some o := e
    rw [ownN_out ha] at e'
    obtain ⟨h1, h2, _⟩ := S.fo a o e'
    exact ⟨h1, h2, by simp⟩
/-- a cell that nobody holds becomes shared -/
theorem Stt.adoptH (S : Stt K F g tm s H B al) {p : Addr} {o : HO} (hp : H p = some o) (hb : B p = none) (ha : p ∉ al) (ho : F.O p = none) : Stt K F g tm s H (upd B p o) al := by
  have eB : Same B (upd B p o) := same_new hb
  refine { rb := S.rb, ro := S.ro, rp := S.rp, ot := S.ot, fb := S.fb.trans eB, bh := ?_, fo := ?_, pre := S.pre, len := S.len, nd := S.nd, lv := S.lv, nb := ?_, ce := ?_, sl := ?_, tm := ?_, sln := S.sln, tx := S.tx }
  · intro a o e
    by_cases h : a = p
    · subst h; rw [upd_same] at e; cases e; exact hp
    · rw [upd_ne h] at e; exact S.bh _ _ e
  · intro a o e
    obtain ⟨h1, h2, h3⟩ := S.fo a o e
    have ne : a ≠ p := fun z => by subst z; rw [ho] at e; cases e
    exact ⟨h1, by rw [upd_ne ne]; exact h2, h3⟩
  · intro j a ct h1 h2 h3
    have ne : a ≠ p := fun z => ha (z ▸ List.mem_of_getElem? h1)
    rw [upd_ne ne]
    exact S.nb j a ct h1 h2 h3
  · intro j a ct h1 h2
    exact ct_mono0 eB (fun o e => e) (S.ce j a ct h1 h2)
  · intro i r e
    obtain ⟨v, h1, h2⟩ := S.sl i r e
    exact ⟨v, h1, rv_mono0 eB h2⟩
  · intro q hq
    exact rv_mono0 eB (S.tm q hq)
/-- what a new cell of a callee is to its caller -/
def shR : Ct → R
  | .lst ds => .d (.list ds)
  | ct => .m ct
theorem Stt.take (S : Stt K F g tm s H B al) {p : Addr} {ct : Ct} (hl : ∃ o, H p = some o) (hb : B p = none) (ha : p ∉ al) (ho : F.O p = none) (hc : CtOk K B al H p ct) (hd : flat ct = true) : ∃ B', Stt K F g ((.ref p, shR ct) :: tm) s H B' al := by
  cases ct with
  | dead => cases hd
  | ins _ _ _ => cases hd
  | odx => cases hd
  | lM _ => cases hd
  | lst ds =>
    obtain ⟨xs, h1, h2⟩ := hc
    exact ⟨_, (S.adoptH h1 hb ha ho).push (Dq.lst upd_same (dqall_mono (same_new hb) h2))⟩
  | dK kvs =>
    obtain ⟨xs, h1, h2⟩ := hc
    exact ⟨_, (S.adoptH h1 hb ha ho).push ⟨p, rfl, hd, xs, upd_same, paired_imp (fun _ _ z => ⟨z.1, dq_mono (same_new hb) z.2⟩) h2⟩⟩
  | dT kvs =>
    obtain ⟨xs, h1, h2⟩ := hc
    exact ⟨_, (S.adoptH h1 hb ha ho).push ⟨p, rfl, hd, xs, upd_same, paired_imp (fun _ _ z => ⟨z.1, dq_mono (same_new hb) z.2⟩) h2⟩⟩
  | dN kvs =>
    obtain ⟨xs, h1, h2⟩ := hc
    exact ⟨_, (S.adoptH h1 hb ha ho).push ⟨p, rfl, hd, xs, upd_same, paired_imp (fun _ _ z => ⟨z.1, dq_mono (same_new hb) z.2.1, dq_mono (same_new hb) z.2.2⟩) h2⟩⟩
  | dL kvs =>
    obtain ⟨o, xs, h1, h2⟩ := hc
    exact ⟨_, (S.adoptH h1 hb ha ho).push ⟨p, rfl, hd, o, xs, upd_same, paired_imp (fun _ _ z => ⟨z.1, dq_mono (same_new hb) z.2.1, dq_mono (same_new hb) z.2.2⟩) h2⟩⟩
  | dF kvs =>
    obtain ⟨o, xs, h1, h2⟩ := hc
    exact ⟨_, (S.adoptH h1 hb ha ho).push ⟨p, rfl, hd, o, xs, upd_same, paired_imp (fun _ _ z => ⟨z.1, dq_mono (same_new hb) z.2⟩) h2⟩⟩
end
def isO : R → Option Nat
  | .o j => some j
  | _ => none
def boxes (rs : List R) : List Nat := rs.filterMap isO
def renR (js : List Nat) : R → R
  | .o j => .o (js.idxOf j)
  | r => r
def aliveB : Option Ct → Bool
  | none => false
  | some ct => flat ct
def clnI : Ct → Ct
  | .ins _ _ _ => .dead
  | .odx => .dead
  | .lM _ => .dead
  | ct => ct
theorem ct_clnI {K K' : KR} {B H : Hp} {al al' : List Addr} {a : Addr} {ct : Ct} (h : CtOk K B al H a ct) : CtOk K' B al' H a (clnI ct) := by
  have hb := ct_box h
  cases ct with
  | ins _ _ _ => exact hb
  | odx => exact hb
  | lM _ => exact hb
  | _ => exact h
theorem clnI_nd {ct : Ct} (h : clnI ct ≠ .dead) : ct ≠ .dead := fun z => by subst z; exact h rfl
/-- written back -/
def wb (ce : List Ct) : List Nat → List Ct → List Ct
  | j :: js, c :: cs => wb (ce.set j (clnI c)) js cs
  | _, _ => ce
theorem wb_len : ∀ (js : List Nat) (cs : List Ct) (ce : List Ct), (wb ce js cs).length = ce.length
  | [], _, _ => by simp [wb]
  | _ :: _, [], _ => by simp [wb]
  | j :: js, c :: cs, ce => by unfold wb; rw [wb_len js cs, List.length_set]
theorem wb_out : ∀ (js : List Nat) (cs : List Ct) (ce : List Ct) {i : Nat}, i ∉ js → (wb ce js cs)[i]? = ce[i]?
  | [], _, _, _, _ => by simp [wb]
  | _ :: _, [], _, _, _ => by simp [wb]
  | j :: js, c :: cs, ce, i, h => by
    unfold wb
    rw [wb_out js cs _ (fun z => h (List.mem_cons_of_mem _ z)), List.getElem?_set_ne (fun z => h (by rw [z]; exact List.mem_cons_self))]
theorem wb_in : ∀ (js : List Nat) (cs : List Ct) (ce : List Ct) {i j : Nat}, js.Nodup → cs.length = js.length → (∀ j ∈ js, j < ce.length) → js[i]? = some j → (wb ce js cs)[j]? = (cs[i]?).map clnI
  | [], _, _, _, _, _, _, _, h => by simp at h
  | _ :: _, [], _, _, _, _, h, _, _ => by simp at h
  | j :: js, c :: cs, ce, 0, q, nd, hl, hb, h => by
    have e : j = q := by simpa using h
    subst e
    unfold wb
    rw [wb_out js cs _ (List.nodup_cons.mp nd).1, List.getElem?_set_self (hb _ List.mem_cons_self)]
    rfl
  | j :: js, c :: cs, ce, i + 1, q, nd, hl, hb, h => by
    unfold wb
    rw [wb_in js cs (ce.set j (clnI c)) (i := i) (j := q) (List.nodup_cons.mp nd).2 (by simpa using hl) (fun z hz => by rw [List.length_set]; exact hb z (List.mem_cons_of_mem _ hz)) (by simpa using h)]
    rfl
structure Bxs (al : List Addr) (ce : List Ct) (js : List Nat) (ps : List Addr) (bx : List Ct) : Prop where
  nd : js.Nodup
  l1 : ps.length = js.length
  l2 : bx.length = js.length
  at_ : ∀ (i j : Nat), js[i]? = some j → ∃ (p : Addr) (ct : Ct), ps[i]? = some p ∧ bx[i]? = some ct ∧ al[j]? = some p ∧ ce[j]? = some ct ∧ flat ct = true
theorem bxs_mk {al : List Addr} {ce : List Ct} (hl : al.length = ce.length) : ∀ {js : List Nat}, js.Nodup → (∀ j ∈ js, aliveB ce[j]? = true) → ∃ ps, Bxs al ce js ps (js.map fun j => ce.getD j .dead) := by
  intro js nd h
  refine ⟨js.map fun j => al.getD j 0, nd, List.length_map .., List.length_map .., fun i j e => ?_⟩
  have hj := h j (List.mem_of_getElem? e)
  cases hc : ce[j]? with
  | none => rw [hc] at hj; cases hj
  | some ct =>
    have hlt := (List.getElem?_eq_some_iff.mp hc).1
    have hal : al[j]? = some (al.getD j 0) := by rw [List.getD_eq_getElem?_getD, List.getElem?_eq_getElem (by omega)]; rfl
    refine ⟨_, ct, by rw [List.getElem?_map, e]; rfl, by rw [List.getElem?_map, e, Option.map_some, List.getD_eq_getElem?_getD, hc]; rfl, hal, rfl, ?_⟩
    rw [hc] at hj
    cases ct with
    | dead => cases hj
    | _ => exact hj
section
variable {K : KR} {F : Fm} {g : G} {tm : List (V × R)} {s : L2.St} {H B : Hp} {al : List Addr} {js : List Nat} {ps : List Addr} {bx : List Ct}
theorem Bxs.mem (b : Bxs al g.ce js ps bx) {p : Addr} (hp : p ∈ ps) : ∃ (i j : Nat) (ct : Ct), ps[i]? = some p ∧ js[i]? = some j ∧ bx[i]? = some ct ∧ al[j]? = some p ∧ g.ce[j]? = some ct ∧ flat ct = true := by
  obtain ⟨i, hi, e⟩ := List.mem_iff_getElem.mp hp
  have hj : js[i]? = some (js[i]'(by rw [← b.l1]; exact hi)) := List.getElem?_eq_getElem _
  obtain ⟨p', ct, e1, e2, e3, e4, e5⟩ := b.at_ i _ hj
  have e0 : ps[i]? = some p := by rw [List.getElem?_eq_getElem hi, e]
  rw [e0] at e1
  cases e1
  exact ⟨i, _, ct, e0, hj, e2, e3, e4, e5⟩
theorem Bxs.pnd (b : Bxs al g.ce js ps bx) (hn : al.Nodup) : ps.Nodup := by
  refine List.pairwise_iff_getElem.mpr fun i k hi hk hik e0 => ?_
  have e : ps[i]? = ps[k]? := by rw [List.getElem?_eq_getElem hi, List.getElem?_eq_getElem hk, e0]
  have j1 : js[i]? = some (js[i]'(by rw [← b.l1]; exact hi)) := List.getElem?_eq_getElem _
  have j2 : js[k]? = some (js[k]'(by rw [← b.l1]; exact hk)) := List.getElem?_eq_getElem _
  obtain ⟨p1, _, a1, _, a3, _⟩ := b.at_ i _ j1
  obtain ⟨p2, _, b1, _, b3, _⟩ := b.at_ k _ j2
  rw [a1, b1] at e
  cases e
  have z := (List.getElem?_inj (List.getElem?_eq_some_iff.mp a3).1 hn).mp (a3.trans b3.symm)
  have z2 := (List.getElem?_inj (List.getElem?_eq_some_iff.mp j1).1 b.nd).mp (j1.trans (by rw [j2, z]))
  omega
def ownP (F : Fm) (H B : Hp) (al ps : List Addr) : Hp := fun a => if ps.contains a = true then none else ownN F H B al a
theorem ownP_in {a : Addr} (h : a ∈ ps) : ownP F H B al ps a = none := by unfold ownP; rw [if_pos (List.contains_iff_mem.mpr h)]
theorem ownP_out {a : Addr} (h : a ∉ ps) : ownP F H B al ps a = ownN F H B al a := by unfold ownP; rw [if_neg (fun z => h (List.contains_iff_mem.mp z))]
theorem callP_in (S : Stt K F g tm s H B al) (b : Bxs al g.ce js ps bx) : Stt (kAt K.fr K.rt.cl B (ownP F H B al ps) ps) ⟨B, ownP F H B al ps, ps⟩ ⟨[], bx⟩ [] [] H B ps := by
  have S0 := call_in S
  have get : ∀ (i : Nat) (a : Addr) (ct : Ct), ps[i]? = some a → bx[i]? = some ct → ∃ j, al[j]? = some a ∧ g.ce[j]? = some ct ∧ flat ct = true := fun i a ct e1 e2 => by
    have hi : i < js.length := by rw [← b.l1]; exact (List.getElem?_eq_some_iff.mp e1).1
    obtain ⟨p', ct', q1, q2, q3, q4, q5⟩ := b.at_ i _ (List.getElem?_eq_getElem hi)
    rw [e1] at q1
    rw [e2] at q2
    cases q1
    cases q2
    exact ⟨_, q3, q4, q5⟩
  refine { tx := S.tx, rb := Same.refl _, ro := (fun _ _ e => e), rp := ⟨[], (List.append_nil _).symm⟩, ot := (fun a us e => by
    by_cases ha : a ∈ ps
    · have e : ownP F H B al ps a = some _ := e
      rw [ownP_in ha] at e; cases e
    · have e : ownP F H B al ps a = some _ := e
      rw [ownP_out ha] at e
      exact ownN_tup S a us e), fb := Same.refl _, bh := S.bh, fo := ?_, pre := ⟨[], (List.append_nil _).symm⟩, len := by rw [b.l1, b.l2], nd := b.pnd S.nd, lv := ?_, nb := ?_, ce := ?_, sl := (fun i r h => by simp at h), tm := (fun p hp => nomatch hp), sln := rfl }
  · intro a o e
    have e' : ownP F H B al ps a = some o := e
    by_cases ha : a ∈ ps
    · rw [ownP_in ha] at e'; cases e'
    · rw [ownP_out ha] at e'
      obtain ⟨q1, q2, _⟩ := S0.fo a o e'
      exact ⟨q1, q2, ha⟩
  · intro a ha
    obtain ⟨i, j, ct, _, _, _, e3, _⟩ := b.mem ha
    exact S.lv a (List.mem_of_getElem? e3)
  · intro i a ct e1 e2 e3
    obtain ⟨j, q1, q2, q3⟩ := get i a ct e1 e2
    exact S.nb j a ct q1 q2 (flat_nd q3)
  · intro i a ct e1 e2
    obtain ⟨j, q1, q2, q3⟩ := get i a ct e1 e2
    exact ct_any q3 (S.ce j a ct q1 q2)
theorem callP_out (S : Stt K F g tm s H B al) (b : Bxs al g.ce js ps bx) {H' B' : Hp} {al' : List Addr} {bx' ce' : List Ct} (hl : bx'.length = ps.length) (S' : Stt (kAt K.fr K.rt.cl B (ownP F H B al ps) ps) ⟨B, ownP F H B al ps, ps⟩ ⟨[], bx' ++ ce'⟩ [] [] H' B' al') :
    Stt K F { g with ce := wb g.ce js bx' } tm s H' B' al := by
  have eB : Same B B' := S'.fb
  obtain ⟨t, ht⟩ := S'.pre
  have ht : al' = ps ++ t := ht
  have hjl : ∀ j ∈ js, j < g.ce.length := fun j hj => by
    obtain ⟨i, hi, e⟩ := List.mem_iff_getElem.mp hj
    obtain ⟨_, _, _, _, _, q4, _⟩ := b.at_ i j (by rw [List.getElem?_eq_getElem hi, e])
    exact (List.getElem?_eq_some_iff.mp q4).1
  have hlj : bx'.length = js.length := by rw [hl, b.l1]
  have old : ∀ a ∈ al, a ∉ ps → B a = none → ∀ o, H a = some o → H' a = some o ∧ B' a = none := fun a ha hp hb o ho => by
    obtain ⟨q1, q2, _⟩ := S'.fo a o (by show ownP F H B al ps a = some o; rw [ownP_out hp, ownN_in ha hb]; exact ho)
    exact ⟨q1, q2⟩
  -- which cell
  have cell : ∀ (j : Nat) (a : Addr) (ct : Ct), al[j]? = some a → (wb g.ce js bx')[j]? = some ct → (∃ i c0, ps[i]? = some a ∧ bx'[i]? = some c0 ∧ ct = clnI c0) ∨ (a ∉ ps ∧ g.ce[j]? = some ct) := fun j a ct e1 e2 => by
    by_cases hj : j ∈ js
    · obtain ⟨i, hi, e⟩ := List.mem_iff_getElem.mp hj
      have hji : js[i]? = some j := by rw [List.getElem?_eq_getElem hi, e]
      obtain ⟨p, c, q1, q2, q3, q4, q5⟩ := b.at_ i j hji
      rw [e1] at q3
      cases q3
      rw [wb_in js bx' g.ce b.nd hlj hjl hji] at e2
      obtain ⟨c0, z1, z2⟩ := Option.map_eq_some_iff.mp e2
      exact .inl ⟨i, c0, q1, z1, z2.symm⟩
    · rw [wb_out js bx' _ hj] at e2
      refine .inr ⟨fun ha => ?_, e2⟩
      obtain ⟨i, j', c, _, q2, _, q4, _⟩ := b.mem ha
      have z := (List.getElem?_inj (List.getElem?_eq_some_iff.mp e1).1 S.nd).mp (e1.trans q4.symm)
      subst z
      exact hj (List.mem_of_getElem? q2)
  have inS : ∀ (i : Nat) (a : Addr) (ct : Ct), ps[i]? = some a → bx'[i]? = some ct → al'[i]? = some a ∧ (bx' ++ ce')[i]? = some ct := fun i a ct e1 e2 => by
    rw [ht, List.getElem?_append_left (List.getElem?_eq_some_iff.mp e1).1, List.getElem?_append_left (List.getElem?_eq_some_iff.mp e2).1]
    exact ⟨e1, e2⟩
  refine { rb := S.rb, ro := S.ro, rp := S.rp, ot := S.ot, fb := S.fb.trans eB, bh := S'.bh, fo := ?_, pre := S.pre, len := by rw [wb_len]; exact S.len, nd := S.nd, lv := ?_, nb := ?_, ce := ?_, sl := ?_, tm := ?_, sln := S.sln, tx := S.tx }
  · intro a o e
    obtain ⟨z1, z2, z3⟩ := S.fo a o e
    have ne : a ∉ ps := fun z => by
      obtain ⟨_, _, _, _, _, _, q, _⟩ := b.mem z
      exact z3 (List.mem_of_getElem? q)
    obtain ⟨q1, q2, _⟩ := S'.fo a o (by show ownP F H B al ps a = some o; rw [ownP_out ne, ownN_out z3]; exact e)
    exact ⟨q1, q2, z3⟩
  · intro a ha
    by_cases hp : a ∈ ps
    · exact S'.lv a (by rw [ht]; exact List.mem_append_left _ hp)
    · obtain ⟨o, ho⟩ := S.lv a ha
      cases hb : B a with
      | none => exact ⟨o, (old a ha hp hb o ho).1⟩
      | some u => exact ⟨u, S'.bh _ _ (eB _ _ hb)⟩
  · intro j a ct e1 e2 e3
    rcases cell j a ct e1 e2 with ⟨i, c0, q1, q2, rfl⟩ | ⟨q1, q2⟩
    · obtain ⟨z1, z2⟩ := inS i a c0 q1 q2
      exact S'.nb i a c0 z1 z2 (clnI_nd e3)
    · obtain ⟨o, ho⟩ := S.lv a (List.mem_of_getElem? e1)
      exact (old a (List.mem_of_getElem? e1) q1 (S.nb j a ct e1 q2 e3) o ho).2
  · intro j a ct e1 e2
    rcases cell j a ct e1 e2 with ⟨i, c0, q1, q2, rfl⟩ | ⟨q1, q2⟩
    · obtain ⟨z1, z2⟩ := inS i a c0 q1 q2
      exact ct_clnI (S'.ce i a c0 z1 z2)
    · by_cases hdd : ct = .dead
      · subst hdd
        obtain ⟨o, h3, h4⟩ := S.ce j a _ e1 q2
        cases hb : B a with
        | none => exact ⟨o, (old a (List.mem_of_getElem? e1) q1 hb o h3).1, h4⟩
        | some u =>
          have := S.bh _ _ hb
          rw [h3] at this
          cases this
          exact ⟨o, S'.bh _ _ (eB _ _ hb), h4⟩
      · exact ct_mono0 eB (fun o e => (old a (List.mem_of_getElem? e1) q1 (S.nb j a ct e1 q2 hdd) o e).1) (S.ce j a ct e1 q2)
  · intro i r e
    obtain ⟨v, q1, q2⟩ := S.sl i r e
    exact ⟨v, q1, rv_mono0 eB q2⟩
  · intro q hq
    exact rv_mono0 eB (S.tm q hq)
theorem callP_new (S : Stt K F g tm s H B al) (b : Bxs al g.ce js ps bx) {H' B' : Hp} {al' : List Addr} {ce' : List Ct} {j : Nat} {p : Addr} {ct : Ct} (S' : Stt (kAt K.fr K.rt.cl B (ownP F H B al ps) ps) ⟨B, ownP F H B al ps, ps⟩ ⟨[], ce'⟩ [] [] H' B' al') (hj : ps.length ≤ j)
    (e1 : al'[j]? = some p) (e2 : ce'[j]? = some ct) (e3 : flat ct = true) : (∃ o, H' p = some o) ∧ B' p = none ∧ p ∉ al ∧ F.O p = none ∧ CtOk K B' al H' p ct := by
  have hx := S'.ce j p _ e1 e2
  have hb := S'.nb j p _ e1 e2 (flat_nd e3)
  have hm := List.mem_of_getElem? e1
  obtain ⟨t, ht⟩ := S'.pre
  have ht : al' = ps ++ t := ht
  have np : p ∉ ps := fun z => by
    obtain ⟨i, hi, e⟩ := List.mem_iff_getElem.mp z
    have z0 : al'[i]? = some p := by rw [ht, List.getElem?_append_left hi, List.getElem?_eq_getElem hi, e]
    have := (List.getElem?_inj (List.getElem?_eq_some_iff.mp e1).1 S'.nd).mp (e1.trans z0.symm)
    omega
  refine ⟨S'.lv p hm, hb, fun ha => ?_, ?_, ct_any e3 hx⟩
  · cases hB : B p with
    | none =>
      obtain ⟨o, ho⟩ := S.lv p ha
      exact (S'.fo p o (by show ownP F H B al ps p = some o; rw [ownP_out np, ownN_in ha hB]; exact ho)).2.2 hm
    | some u => rw [S'.fb _ _ hB] at hb; cases hb
  · cases hF : F.O p with
    | none => rfl
    | some o => exact absurd hm (S'.fo p o (by show ownP F H B al ps p = some o; rw [ownP_out np, ownN_out (S.fo p o hF).2.2]; exact hF)).2.2
def noL : R → Bool
  | .l _ => false
  | .t _ _ => false
  | .f _ _ => false
  | _ => true
theorem paired_ren {O : Hp} (b : Bxs al g.ce js ps bx) {vs : List V} {rs : List R} (h : Paired (RvOk K B al) vs rs) : rs.all noL = true → (∀ j ∈ boxes rs, j ∈ js) → Paired (RvOk (kAt K.fr K.rt.cl B O ps) B ps) vs (rs.map (renR js)) := by
  induction h with
  | nil => intro _ _; exact .nil
  | @cons v r vs rs a t ih =>
    intro hno hj
    rw [List.all_cons, Bool.and_eq_true] at hno
    refine .cons ?_ (ih hno.2 fun j h => hj j ?_)
    · cases r with
      | d x => exact a
      | s ns => exact a
      | x n => exact a
      | l js => exact absurd hno.1 (by simp [noL])
      | t _ _ => exact absurd hno.1 (by simp [noL])
      | f j ds => exact absurd hno.1 (by simp [noL])
      | u nd ds => exact a
      | m ct =>
        obtain ⟨p, e1, e2, e3⟩ := a
        exact ⟨p, e1, e2, ct_any e2 e3⟩
      | o j =>
        obtain ⟨p, e1, e2⟩ := a
        have hm : j ∈ js := hj j (by unfold boxes; rw [List.filterMap_cons]; exact List.mem_cons_self)
        have hi : js.idxOf j < js.length := List.idxOf_lt_length_of_mem hm
        obtain ⟨p', _, q1, _, q3, _⟩ := b.at_ (js.idxOf j) j (by rw [List.getElem?_eq_getElem hi, List.getElem_idxOf hi])
        rw [e1] at q3
        cases q3
        exact ⟨p, q1, e2⟩
    · unfold boxes at h ⊢
      rw [List.filterMap_cons]
      cases isO r with
      | none => exact h
      | some i => exact List.mem_cons_of_mem _ h
end
section
variable {X : Cx} {k : Nat} {f : Addr} {fd : FuncData} {ps : List Str} {sp : Sp} {E : L2.St → XK} {x : Str} {p pos : Pos} {e : Expr} {es : List Expr} {t : TA}
theorem run_fnG {pins : List (Addr × Obj)} {σ : L2.St} {H : Hp} {s : Shared} {Q : VK} {us : List Value} {vs : List V} (F : FnG X.prog X.w X.K X.mg X.base (L2.CX X.prog X.w) k f fd ps sp) (hr : Calm k X.A) (hb : Binds X.K fd ps []) (hx : PassesAt (L2.CX X.prog X.w) X σ (E σ))
    (I : Inv X pins σ H s) (r : Vals vs us) (h : sp vs H Q (E σ)) : wpAny (model X.prog X.w) X.A (call (.ref f) us) (EP X pins σ Q) X.xe s := by
  have hl : us.length = ps.length := by rw [← r.length]; exact F.count _ _ _ _ h
  have b := hb s us I.kIn (by rw [List.append_nil]; exact hl)
  rw [List.append_nil] at b
  exact runs_G (as := ⟨us, []⟩) F hr I (fun v s' q => hx pins H s v s' I q) b r h
theorem pe_callG (F : FnG X.prog X.w X.K X.mg X.base (L2.CX X.prog X.w) k f fd ps sp) (hr : Calm k X.A) (hg : Gl X x) (hm : X.mg x = some (.ref f)) (hk : PySem.W.keepIn X.K (.ref f) = true) (hb : Binds X.K fd ps []) (hx : ∀ σ, PassesAt (L2.CX X.prog X.w) X σ (E σ))
    (ha : PA X (e :: es) t) (hdb : (x == ("__debug__" : Str)) = false := by decide) (he : starEach (e :: es) X.env = (false, eval e X.env) :: starEach es X.env := by rfl) (hpl : (backTo pos (starEach es X.env)).any (·.1) = false := by rfl) :
    PE X (.Call (.Name x p) (e :: es) [] pos) (tCallS sp E t) := by
  refine ⟨fun pins s σ H Q I h => ?_⟩
  refine wpAny_Call_Name_kw (ld_glob I hg hm ?_ hdb)
  refine PySem.W.callWith_K (h₀ := X.base) I.ok.mod.kin hk (thn (ha.run pos pins s σ H _ I h) fun us s1 ⟨vs, H1, I1, r, q⟩ => ⟨I1.kIn, ?_⟩) he hpl
  exact run_fnG F hr hb (hx σ) I1 r q
end
end DL
set_option Elab.async false
set_option linter.all false
set_option maxRecDepth 100000
set_option maxHeartbeats 4000000
set_option autoImplicit false
namespace DZ
open PySem
open PySem.Sem (wp)
/-- a zip, strict: false -/
abbrev IsZP (h : Heap) (z TI TO : Addr) (f0 : Value) (f : Bool) : Prop := h.get? z = some { cls := .type "zip", dict := none, data := .fields #[f0, .bool f, .bool false, .ref TI, .ref TO], slots := #[] }
section
variable {prog : Program} {w : World} {A : Around} {E : Value → Shared → Prop} {s : Shared}
theorem goP {elts : List Expr} {x1 : Nat} {pos : Pos} {z TI TO T : Addr} {f : Bool} {Q : Unit → Shared → Prop} (hz : IsZP s.heap z TI TO (rawInt T) f) (hQ : ∀ h', IsZP h' z TI TO .none f → Heap.SameBut z s.heap h' → Q () { s with heap := h' }) :
    wpAny (model prog w) A (letOwnedTupleGo (.Tuple elts x1 pos) (.ref z) (.ref T)) Q E s := by
  unfold letOwnedTupleGo
  refine wpAny_bind (wpAny_load hz ?_)
  show wpAny _ _ (if (["enumerate", "zip", "dict_itemiterator", "dict_reverseitemiterator", "odict_iterator", "itertools.zip_longest", "itertools.pairwise"].contains "zip" &&
      (#[rawInt T, .bool f, .bool false, .ref TI, .ref TO] : Array Value)[0]? == some (rawInt T)) = true then _ else _) Q E s
  rw [if_pos (by simp)]
  refine wpAny_bind (wpAny_rule ?_)
  show wpAny _ _ (setField (.ref z) 0 .none) Q E s
  exact wpAny_setField_rec hz (by simp) fun h' hz' hs' => hQ h' hz' hs'
theorem iterP {z TI TO : Addr} {f0 : Value} {f : Bool} {Q : Value → Shared → Prop} (hz : IsZP s.heap z TI TO f0 f) (h : Q (.ref z) s) : wpAny (model prog w) A (pyIter (.ref z)) Q E s := by
  have hT : s.TypeIs (.ref z) "zip" := ⟨_, hz, rfl⟩
  refine wpAny_pyIter_slot hT F.slot_zip_iter (wpAny_call_entry F.slot_zip_iter hT F.entry_zip_iter ?_ (F.args_zip_iter_1 _))
  show wpAny _ _ (ret (.ref z)) _ _ s
  exact wpAny_pure ⟨_, rfl, "zip", _, hT, F.slot_zip_next.lookup, h⟩
end
section
variable {prog : Program} {w : World} {A : Around} {E : Value → Shared → Prop} {s : Shared} {z TI TO i1 i2 : Addr} {fp1 fp2 : List Addr} {m i : Nat} {P1 P2 : Nat → Value → Prop} {St1 St2 : Nat → Heap → Prop} {a1 a2 : Value} {f : Bool}
theorem zP2_item {Q : Value → Shared → Prop} (S : ZipSep2 z TI TO i1 i2 fp1 fp2) (D1 : Draws prog w A i1 fp1 m P1 St1) (D2 : Draws prog w A i2 fp2 m P2 St2)
    (hz : IsZP s.heap z TI TO .none f) (hTI : IsTupOf2 s.heap TI (.ref i1) (.ref i2)) (hTO : IsTupOf2 s.heap TO a1 a2) (st1 : St1 i s.heap) (st2 : St2 i s.heap) (hlt : i < m)
    (hQ : ∀ x1 x2 h' tk, P1 i x1 → P2 i x2 → IsZP h' z TI TO (rawInt s.heap.objs.size) false → IsTupOf2 h' TO x1 x2 → St1 (i + 1) h' → St2 (i + 1) h' → IsTupOf2 h' s.heap.objs.size x1 x2 → h'.objs.size = s.heap.objs.size + 1 →
      (∀ c o, c ≠ z → c ≠ TO → c ≠ i1 → c ≠ i2 → s.heap.get? c = some o → h'.get? c = some o) → Q (.ref s.heap.objs.size) { s with heap := h', toks := tk }) :
    wpAny (model prog w) A (Builtin.«zip.__next__» ⟨[.ref z], []⟩) (fun fin s' => ∃ v, fin = .done (.ret v) ∧ Q v s') E s := by
  obtain ⟨hp, g, d, tk0, os⟩ := s
  show wpAny _ _ (field (.ref z) 2 >>= _) _ _ _
  refine wpAny_bind (wpAny_field hz rfl (x := .bool false) rfl ?_)
  show wpAny _ _ (field (.ref z) 3 >>= _) _ _ _
  refine wpAny_bind (wpAny_field hz rfl (x := .ref TI) rfl ?_)
  refine wpAny_bind (wpAny_seqItems hTI rfl ?_)
  show wpAny _ _ (Builtin.SmallTypes.ownedTupleIsFree (.ref z) >>= _) _ _ _
  refine wpAny_bind ?_
  unfold Builtin.SmallTypes.ownedTupleIsFree
  refine wpAny_bind (wpAny_field hz rfl (x := .none) rfl (wpAny_pure ?_))
  simp only [if_true]
  refine wpAny_bind (wpAny_rule ?_)
  refine wpAny_bind (wpAny_field hz rfl (x := .ref TO) rfl ?_)
  refine wpAny_bind (wpAny_setField_rec hz (by simp) fun g0 hz0 hs0 => ?_)
  replace hz0 : IsZP g0 z TI TO .ellipsis f := hz0
  replace hs0 : Heap.SameBut z hp g0 := hs0
  refine wpAny_bind ?_
  simp only [List.zipIdx_cons, List.zipIdx_nil, List.forIn_cons, List.forIn_nil]
  refine wpAny_bind (wpAny_bind (wpAny_onRaise ?_))
  show wpAny _ _ (Builtin.SmallTypes.nextOf (.ref i1) >>= _) _ _ ⟨g0, g, d, tk0, os⟩
  refine wpAny_bind (D1.item i _ _ _ hlt (D1.over st1 hs0 S.zf1) fun x1 p1 tk1 hx1 sn1 hp1 => wpAny_pure ?_)
  replace hp1 : Heap.SameBut i1 g0 p1 := hp1
  have hU1 : IsTupOf2 p1 TO a1 a2 := hp1.extBut _ _ S.Ti1 (hs0.extBut _ _ S.TOz hTO)
  refine wpAny_bind (wpAny_seqItems (s := ⟨p1, g, d, tk1, os⟩) hU1 rfl ?_)
  refine wpAny_bind (updateSeq_IsTupOf2 (s := ⟨p1, g, d, tk1, os⟩) hU1 fun g1 hT1 hs1 => ?_)
  replace hT1 : IsTupOf2 g1 TO x1 a2 := hT1
  replace hs1 : Heap.SameBut TO p1 g1 := hs1
  refine wpAny_bind (wpAny_letGo (wpAny_pure ?_))
  refine wpAny_bind (wpAny_bind (wpAny_onRaise ?_))
  show wpAny _ _ (Builtin.SmallTypes.nextOf (.ref i2) >>= _) _ _ ⟨g1, g, d, tk1, os⟩
  refine wpAny_bind (D2.item i _ _ _ hlt (D2.over (D2.over (D2.over st2 hs0 S.zf2) hp1 S.sep1_2) hs1 S.Tf2) fun x2 p2 tk2 hx2 sn2 hp2 => wpAny_pure ?_)
  replace hp2 : Heap.SameBut i2 g1 p2 := hp2
  have hU2 : IsTupOf2 p2 TO x1 a2 := hp2.extBut _ _ S.Ti2 hT1
  refine wpAny_bind (wpAny_seqItems (s := ⟨p2, g, d, tk2, os⟩) hU2 rfl ?_)
  refine wpAny_bind (updateSeq_IsTupOf2 (s := ⟨p2, g, d, tk2, os⟩) hU2 fun g2 hT2 hs2 => ?_)
  replace hT2 : IsTupOf2 g2 TO x1 x2 := hT2
  replace hs2 : Heap.SameBut TO p2 g2 := hs2
  refine wpAny_bind (wpAny_letGo (wpAny_pure (wpAny_pure ?_)))
  refine wpAny_bind (wpAny_seqItems (s := ⟨g2, g, d, tk2, os⟩) hT2 rfl ?_)
  refine wpAny_bind (wpAny_newTuple ?_)
  have hsz : g2.objs.size = hp.objs.size := by rw [hs2.1, hp2.1, hs1.1, hp1.1, hs0.1]
  have hzz : IsZP g2 z TI TO .ellipsis f := hs2.extBut _ _ S.TOz.symm (hp2.extBut _ _ S.zi2 (hs1.extBut _ _ S.TOz.symm (hp1.extBut _ _ S.zi1 (hz0))))
  have hkk : ∀ c o, c ≠ z → c ≠ TO → c ≠ i1 → c ≠ i2 → hp.get? c = some o → g2.get? c = some o := fun c o cz cT c1 c2 e => hs2.extBut _ _ cT (hp2.extBut _ _ c2 (hs1.extBut _ _ cT (hp1.extBut _ _ c1 (hs0.extBut _ _ cz e))))
  have hj1 : St1 (i + 1) g2 := D1.over (D1.over (D1.over sn1 hs1 S.Tf1) hp2 S.sep2_1) hs2 S.Tf1
  have hj2 : St2 (i + 1) g2 := D2.over sn2 hs2 S.Tf2
  have hzlt : z < g2.objs.size := Heap.lt_size hzz
  show wpAny _ _ (Builtin.SmallTypes.ownedTupleHandOut (.ref z) (.ref g2.objs.size) >>= _) _ _ ⟨g2.push { cls := .type "tuple", data := .seq #[x1, x2] }, g, d, tk2, os⟩
  refine wpAny_bind ?_
  unfold Builtin.SmallTypes.ownedTupleHandOut
  have hz6 : IsZP (g2.push { cls := .type "tuple", data := .seq #[x1, x2] }) z TI TO .ellipsis f := Heap.get?_push_of_some _ hzz
  refine wpAny_bind (wpAny_setField_rec hz6 (by simp) fun h7 hz7 hs7 => ?_)
  replace hz7 : IsZP h7 z TI TO (rawInt g2.objs.size) f := hz7
  refine wpAny_setField_rec hz7 (by simp) fun h8 hz8 hs8 => ?_
  replace hz8 : IsZP h8 z TI TO (rawInt g2.objs.size) false := hz8
  replace hs7 : Heap.SameBut z (g2.push { cls := .type "tuple", data := .seq #[x1, x2] }) h7 := hs7
  replace hs8 : Heap.SameBut z h7 h8 := hs8
  have up : ∀ c o, c ≠ z → g2.get? c = some o → h8.get? c = some o := fun c o c1 e => hs8.extBut _ _ c1 (hs7.extBut _ _ c1 (Heap.get?_push_of_some _ e))
  have hT8 : IsTupOf2 h8 g2.objs.size x1 x2 := hs8.extBut _ _ (Nat.ne_of_gt hzlt) (hs7.extBut _ _ (Nat.ne_of_gt hzlt) (Heap.get?_push_size _ rfl))
  have hz9 : h8.objs.size = g2.objs.size + 1 := by rw [hs8.1, hs7.1, Heap.size_push]
  rw [hsz] at hz8 hT8 hz9
  refine wpAny_pure ⟨_, rfl, ?_⟩
  show Q (.ref g2.objs.size) ⟨h8, g, d, tk2, os⟩
  rw [hsz]
  exact hQ x1 x2 h8 tk2 hx1 hx2 hz8 (up _ _ S.TOz hT2) (D1.frame _ _ _ hj1 fun b hb o e => up b o (fun q => S.zf1 (q ▸ hb)) e) (D2.frame _ _ _ hj2 fun b hb o e => up b o (fun q => S.zf2 (q ▸ hb)) e) hT8 hz9 fun c o cz cT c1 c2 e => up c o cz (hkk c o cz cT c1 c2 e)
theorem zP2_end {Q : Fin → Shared → Prop} (hh : A.handled = none) (S : ZipSep2 z TI TO i1 i2 fp1 fp2) (D1 : Draws prog w A i1 fp1 m P1 St1) (D2 : Draws prog w A i2 fp2 m P2 St2)
    (hz : IsZP s.heap z TI TO .none f) (hTI : IsTupOf2 s.heap TI (.ref i1) (.ref i2)) (st1 : St1 m s.heap) (st2 : St2 m s.heap)
    (hE : ∀ h' tk e, (∀ c o, c ≠ z → c ≠ i1 → c ≠ i2 → s.heap.get? c = some o → h'.get? c = some o) → (∃ o, h'.get? e = some o ∧ o.cls = .type "StopIteration") → E (.ref e) { s with heap := h', toks := tk }) :
    wpAny (model prog w) A (Builtin.«zip.__next__» ⟨[.ref z], []⟩) Q E s := by
  obtain ⟨hp, g, d, tk0, os⟩ := s
  show wpAny _ _ (field (.ref z) 2 >>= _) _ _ _
  refine wpAny_bind (wpAny_field hz rfl (x := .bool false) rfl ?_)
  show wpAny _ _ (field (.ref z) 3 >>= _) _ _ _
  refine wpAny_bind (wpAny_field hz rfl (x := .ref TI) rfl ?_)
  refine wpAny_bind (wpAny_seqItems hTI rfl ?_)
  show wpAny _ _ (Builtin.SmallTypes.ownedTupleIsFree (.ref z) >>= _) _ _ _
  refine wpAny_bind ?_
  unfold Builtin.SmallTypes.ownedTupleIsFree
  refine wpAny_bind (wpAny_field hz rfl (x := .none) rfl (wpAny_pure ?_))
  simp only [if_true]
  refine wpAny_bind (wpAny_rule ?_)
  refine wpAny_bind (wpAny_field hz rfl (x := .ref TO) rfl ?_)
  refine wpAny_bind (wpAny_setField_rec hz (by simp) fun g0 hz0 hs0 => ?_)
  replace hz0 : IsZP g0 z TI TO .ellipsis f := hz0
  replace hs0 : Heap.SameBut z hp g0 := hs0
  refine wpAny_bind ?_
  simp only [List.zipIdx_cons, List.zipIdx_nil, List.forIn_cons, List.forIn_nil]
  refine wpAny_bind (wpAny_bind (wpAny_onRaise ?_))
  show wpAny _ _ (Builtin.SmallTypes.nextOf (.ref i1) >>= _) _ _ ⟨g0, g, d, tk0, os⟩
  refine wpAny_bind (D1.done ⟨g0, g, d, tk0, os⟩ _ _ (D1.over st1 hs0 S.zf1) fun q e hq he => ?_)
  replace hq : Heap.ExtBut i1 g0 q := hq
  obtain ⟨oe, hoe, hce⟩ := he
  replace hoe : q.get? e = some oe := hoe
  have hzq : IsZP q z TI TO .ellipsis f := hq _ _ S.zi1 hz0
  have hez : e ≠ z := fun x => by subst x; rw [hzq] at hoe; cases hoe; simp at hce
  refine wpAny_setField_rec (s := ⟨q, g, d, tk0, os⟩) hzq (by simp) fun q' _ hq' => ?_
  replace hq' : Heap.SameBut z q q' := hq'
  exact hE q' tk0 e (fun c o cz c1 c2 x => hq'.extBut _ _ cz (hq _ _ c1 (hs0.extBut _ _ cz x))) ⟨oe, hq'.extBut _ _ hez hoe, hce⟩
end
end DZ
set_option Elab.async false
set_option linter.all false
set_option maxRecDepth 100000
set_option maxHeartbeats 4000000
set_option autoImplicit false
namespace DZ
open PySem
open PySem.Sem (wp)
def IterAt (t : Bool) (h : Heap) (it l : Addr) (i : Nat) : Prop := match t with
  | true => h.IsTupleIter it l i
  | false => h.IsListIter it l i
def ItemsAt (t : Bool) (h : Heap) (l : Addr) (items : Array Value) : Prop := match t with
  | true => h.IsTuple l items
  | false => h.IsList l items
theorem drawsB {prog : Program} {w : World} {A : Around} (t : Bool) (hh : A.handled = none) (it l : Addr) (hne : l ≠ it) (items : Array Value) : Draws prog w A it [it, l] items.size (fun i v => items[i]? = some v) (fun i h => IterAt t h it l i ∧ ItemsAt t h l items) := by
  cases t with
  | true => exact Draws.tuple hh it l hne items
  | false => exact Draws.list hh it l hne items
def itObj (t : Bool) (l : Addr) : Obj := match t with
  | true => { cls := .type "tuple_iterator", data := .fields #[.ref l, .int 0 0] }
  | false => { cls := .type "list_iterator", data := .fields #[.ref l, .int 0 0] }
theorem beginsB (t : Bool) (l : Addr) (items : Array Value) : Begins (.ref l) (itObj t l) fun h => ItemsAt t h l items := by
  cases t with
  | true => exact begins_tuple l items
  | false => exact begins_list l items
theorem IterAt.start {t : Bool} {h : Heap} {it l : Addr} (e : h.get? it = some (itObj t l)) : IterAt t h it l 0 := by
  cases t with
  | true => exact ⟨_, e, rfl, rfl⟩
  | false => exact ⟨_, e, rfl, rfl⟩
theorem IterAt.move {t : Bool} {h h' : Heap} {it l : Addr} {i : Nat} (x : IterAt t h it l i) (k : ∀ o, h.get? it = some o → h'.get? it = some o) : IterAt t h' it l i := by
  cases t with
  | true => exact Heap.IsTupleIter.at x k
  | false => exact Heap.IsListIter.at x k
theorem IterAt.obj {t : Bool} {h : Heap} {it l : Addr} {i : Nat} (x : IterAt t h it l i) : ∃ o, h.get? it = some o ∧ ∀ v, o.data ≠ .cell v := by
  cases t with
  | true =>
    obtain ⟨o, e, _, d⟩ := x
    exact ⟨o, e, fun v q => by rw [d] at q; cases q⟩
  | false =>
    obtain ⟨o, e, _, d⟩ := x
    exact ⟨o, e, fun v q => by rw [d] at q; cases q⟩
theorem ItemsAt.lt {t : Bool} {h : Heap} {l : Addr} {items : Array Value} (x : ItemsAt t h l items) : l < h.objs.size := by
  cases t with
  | true => obtain ⟨o, e, _⟩ := x; exact Heap.lt_size e
  | false => obtain ⟨o, e, _⟩ := x; exact Heap.lt_size e
end DZ
namespace DL
open PySem PySem.Spec PyProof.Rows L2
variable [Tx]
theorem seqB_at {X : Cx} {pins : List (Addr × Obj)} {s : L2.St} {H : Hp} {sh : Shared} {t : Bool} {a : Addr} {xs : List V} (I : Inv X pins s H sh) (h : SqB X.K t H a xs) : ∃ its : List Value, Vals xs its ∧ DZ.ItemsAt t sh.heap a its.toArray ∧ xs.length ≤ sizeLine := by
  cases t with
  | true =>
    obtain ⟨its, r, p, z⟩ := I.tuple h
    exact ⟨its, r, p, z⟩
  | false =>
    obtain ⟨its, r, p, z⟩ := I.list h
    exact ⟨its, r, p.isList, z⟩
theorem seqB_inj {X : Cx} {pins : List (Addr × Obj)} {s : L2.St} {H : Hp} {sh : Shared} {t : Bool} {a : Addr} {xs ys : List V} (I : Inv X pins s H sh) (h : SqB X.K t H a xs) (h' : SqB X.K t H a ys) : xs = ys := by
  cases t with
  | true => exact I.tuple_inj h h'
  | false => exact I.list_inj h h'
theorem same_b {K : PySem.W.Frag} {t : Bool} {H H' : Hp} {a : Addr} {xs : List V} (e : Same H H') (h : SqB K t H a xs) : SqB K t H' a xs := by
  cases t with
  | true => exact same_t e h
  | false => exact same_l e h
/-- 2 sources of one length, the items in new tuples -/
def ItZ2 (K : PySem.W.Frag) (t1 : Bool) (a1 : Addr) (t2 : Bool) (a2 : Addr) : It :=
  ⟨fun i H => ∃ (xs1 xs2 : List V) (x1 x2 : V) (n : Nat), SqB K t1 H a1 xs1 ∧ SqB K t2 H a2 xs2 ∧ xs1.length = n ∧ xs2.length = n ∧ xs1[i]? = some x1 ∧ xs2[i]? = some x2,
    fun i H v H' => ∃ (T : Addr) (ob : Obj) (x1 x2 : V), v = .ref T ∧ H T = none ∧ ob.dict = none ∧ H' = upd H T (.frz ob (.tup [x1, x2])) ∧ (∀ xs, SqB K t1 H a1 xs → xs[i]? = some x1) ∧ (∀ xs, SqB K t2 H a2 xs → xs[i]? = some x2),
    fun i H => ∃ xs1 xs2 : List V, SqB K t1 H a1 xs1 ∧ SqB K t2 H a2 xs2 ∧ xs1.length = i ∧ xs2.length = i⟩
theorem turnP2 {P : Program} {w : World} {K : PySem.W.Frag} {elts : List Expr} {kk : Nat} {tpos : Pos} {t1 t2 : Bool} {a1 a2 z TI TO i1 i2 : Addr} (D : ZipSep2 z TI TO i1 i2 [i1, a1] [i2, a2]) (ne1 : a1 ≠ i1) (ne2 : a2 ≠ i2) :
    Turn P w K (.Tuple elts kk tpos) (ItZ2 K t1 a1 t2 a2) [z, TI, TO, i1, i2] z (fun i h => DZ.IsZP h z TI TO .none false ∧ IsTupOf2 h TI (.ref i1) (.ref i2) ∧ (∃ b1 b2, IsTupOf2 h TO b1 b2) ∧ DZ.IterAt t1 h i1 a1 i ∧ DZ.IterAt t2 h i2 a2 i) where
  mem := by simp
  obj := fun i h st c hc => by
    obtain ⟨hz, hTI, ⟨b1, b2, hTO⟩, h1, h2⟩ := st
    have e' : c = z ∨ c = TI ∨ c = TO ∨ c = i1 ∨ c = i2 := by simpa using hc
    rcases e' with q | q | q | q | q
    · rw [q]; exact ⟨_, hz, fun v q => nomatch q⟩
    · rw [q]; exact ⟨_, hTI, fun v q => nomatch q⟩
    · rw [q]; exact ⟨_, hTO, fun v q => nomatch q⟩
    · rw [q]; exact h1.obj
    · rw [q]; exact h2.obj
  keep := fun i h h' st k => by
    obtain ⟨hz, hTI, ⟨b1, b2, hTO⟩, h1, h2⟩ := st
    exact ⟨k z (by simp) _ hz, k TI (by simp) _ hTI, ⟨b1, b2, k TO (by simp) _ hTO⟩, h1.move fun o q => k i1 (by simp) o q, h2.move fun o q => k i2 (by simp) o q⟩
  item := by
    intro X hP hw hK hc i pins s σ H E I hf st hg
    subst hP hw hK
    obtain ⟨hz, hTI, ⟨b1, b2, hTO⟩, h1, h2⟩ := st
    obtain ⟨xs1, xs2, x1, x2, n, hq1, hq2, el1, el2, hx1, hx2⟩ := hg
    obtain ⟨its1, rv1, p1, _⟩ := seqB_at I hq1
    obtain ⟨u1, hu1, ru1⟩ := rv1.get hx1
    have sz1 : its1.toArray.size = n := by rw [List.size_toArray, ← rv1.length]; exact el1
    have D1 := DZ.drawsB (prog := X.prog) (w := X.w) (A := X.A.in1) t1 (I.ok.hd hc) i1 a1 ne1 its1.toArray
    rw [sz1] at D1
    obtain ⟨its2, rv2, p2, _⟩ := seqB_at I hq2
    obtain ⟨u2, hu2, ru2⟩ := rv2.get hx2
    have sz2 : its2.toArray.size = n := by rw [List.size_toArray, ← rv2.length]; exact el2
    have D2 := DZ.drawsB (prog := X.prog) (w := X.w) (A := X.A.in1) t2 (I.ok.hd hc) i2 a2 ne2 its2.toArray
    rw [sz2] at D2
    have hin : i < n := by
      have := (List.getElem?_eq_some_iff.mp hx1).1
      omega
    have hzl : z < s.heap.objs.size := Heap.lt_size hz
    have hTy : s.TypeIs (.ref z) "zip" := ⟨_, hz, rfl⟩
    unfold pyNext
    refine wpAny_bind (wpAny_attempt (wpAny_callSpecial?_slot (name := Str.ofString "__next__") hTy F.slot_zip_next (wpAny_call_entry F.slot_zip_next hTy F.entry_zip_next
      (DZ.zP2_item D D1 D2 hz hTI hTO ⟨h1, p1⟩ ⟨h2, p2⟩ hin fun w1 w2 h' tk e1 e2 z' TO2 s1 s2 hT hsz hk => ?_) (F.args_zip_next_1 _))))
    have ew1 : w1 = u1 := by
      have z0 : its1.toArray[i]? = some u1 := by simpa using hu1
      exact Option.some.inj (e1.symm.trans z0)
    have ew2 : w2 = u2 := by
      have z0 : its2.toArray[i]? = some u2 := by simpa using hu2
      exact Option.some.inj (e2.symm.trans z0)
    subst ew1 ew2
    refine wpAny_pure ⟨_, rfl, DZ.goP (s := { s with heap := h', toks := tk }) z' fun hz2 z2 sb => ?_⟩
    have hT2 : hz2.get? s.heap.objs.size = some { cls := .type "tuple", data := .seq #[w1, w2] } := (sb.2 _ (Nat.ne_of_gt hzl)).trans hT
    have new : ObjOk X.prog X.w (upd H s.heap.objs.size (.frz (DL.newT [w1, w2]) (.tup [x1, x2]))) hz2 s.heap.objs.size (.frz (DL.newT [w1, w2]) (.tup [x1, x2])) :=
      ⟨hT2, by show 2 ≤ sizeLine; decide, [w1, w2], .cons ru1 (.cons ru2 (.nil)), ⟨_, hT2, rfl, _, rfl⟩⟩
    have I1 : Inv X pins σ (upd H s.heap.objs.size (.frz (DL.newT [w1, w2]) (.tup [x1, x2]))) { s with heap := hz2, toks := tk } :=
      I.turnedNew (t' := tk) (ch := [z, TI, TO, i1, i2]) (fun c o hb q => (sb.2 c (fun q' => hb (by simp [q']))).trans (hk c o (fun q' => hb (by simp [q'])) (fun q' => hb (by simp [q'])) (fun q' => hb (by simp [q'])) (fun q' => hb (by simp [q'])) q)) hf (Nat.le_refl _) new
    refine ⟨.ref s.heap.objs.size, _, I1, rfl, ⟨_, _, x1, x2, rfl, I.hok.fresh (Nat.le_refl _), rfl, rfl, fun l hl => by rw [seqB_inj I hl hq1]; exact hx1, fun l hl => by rw [seqB_inj I hl hq2]; exact hx2⟩, ⟨z2, ?_, ⟨w1, w2, ?_⟩, ?_, ?_⟩, fun c hcm => ?_⟩
    · exact (sb.2 _ D.TIz).trans (hk _ _ D.TIz D.TITO D.TIi1 D.TIi2 hTI)
    · exact (sb.2 _ D.TOz).trans TO2
    · exact s1.1.move fun o q => (sb.2 _ (Ne.symm D.zi1)).trans q
    · exact s2.1.move fun o q => (sb.2 _ (Ne.symm D.zi2)).trans q
    · have hlt : c < s.heap.objs.size := by
        have e' : c = z ∨ c = TI ∨ c = TO ∨ c = i1 ∨ c = i2 := by simpa using hcm
        rcases e' with q | q | q | q | q
        · rw [q]; exact hzl
        · rw [q]; exact Heap.lt_size hTI
        · rw [q]; exact Heap.lt_size hTO
        · rw [q]; obtain ⟨_, e1, _⟩ := h1.obj; exact Heap.lt_size e1
        · rw [q]; obtain ⟨_, e1, _⟩ := h2.obj; exact Heap.lt_size e1
      rw [upd_ne (Nat.ne_of_lt hlt)]
      exact (hf c hcm).1
  done := by
    intro X hP hw hK hc i pins s σ H E I hf st hg
    subst hP hw hK
    obtain ⟨hz, hTI, ⟨b1, b2, hTO⟩, h1, h2⟩ := st
    obtain ⟨xs1, xs2, hq1, hq2, el1, el2⟩ := hg
    obtain ⟨its1, rv1, p1, _⟩ := seqB_at I hq1
    have sz1 : its1.toArray.size = i := by rw [List.size_toArray, ← rv1.length]; exact el1
    have D1 := DZ.drawsB (prog := X.prog) (w := X.w) (A := X.A.in1) t1 (I.ok.hd hc) i1 a1 ne1 its1.toArray
    rw [sz1] at D1
    obtain ⟨its2, rv2, p2, _⟩ := seqB_at I hq2
    have sz2 : its2.toArray.size = i := by rw [List.size_toArray, ← rv2.length]; exact el2
    have D2 := DZ.drawsB (prog := X.prog) (w := X.w) (A := X.A.in1) t2 (I.ok.hd hc) i2 a2 ne2 its2.toArray
    rw [sz2] at D2
    have hTy : s.TypeIs (.ref z) "zip" := ⟨_, hz, rfl⟩
    unfold pyNext
    refine wpAny_bind (wpAny_attempt (wpAny_callSpecial?_slot (name := Str.ofString "__next__") hTy F.slot_zip_next (wpAny_call_entry F.slot_zip_next hTy F.entry_zip_next
      (DZ.zP2_end (A := X.A.in1) (I.ok.hd hc) D D1 D2 hz hTI ⟨h1, p1⟩ ⟨h2, p2⟩ fun h' tk e hk he => ?_) (F.args_zip_next_1 _))))
    obtain ⟨o, ho, hcl⟩ := he
    refine wpAny_bind (wpAny_isInstance (T := "StopIteration") (b := true) ⟨o, ho, hcl⟩ isSubtype_stop ?_)
    refine wpAny_pure ⟨rfl, I.turnedL (t' := tk) (ch := [z, TI, TO, i1, i2]) (fun c o hb q => hk c o (fun q' => hb (by simp [q'])) (fun q' => hb (by simp [q'])) (fun q' => hb (by simp [q'])) q) hf⟩
  self := fun A i s Q E st h => DZ.iterP st.1 h
end DL
set_option Elab.async false
set_option linter.all false
set_option maxRecDepth 100000
set_option maxHeartbeats 4000000
set_option autoImplicit false
namespace DZ
open PySem PySem.Spec PySem.Calls PyProof.Rows PyProof.V L2 PySem.W
theorem ItemsAt.move {t : Bool} {h h' : Heap} {l : Addr} {items : Array Value} (x : ItemsAt t h l items) (k : ∀ o, h.get? l = some o → h'.get? l = some o) : ItemsAt t h' l items := by
  cases t with
  | true => exact let ⟨o, ho, r⟩ := (show h.IsTuple l items from x); (show h'.IsTuple l items from ⟨o, k o ho, r⟩)
  | false => exact let ⟨o, ho, r⟩ := (show h.IsList l items from x); (show h'.IsList l items from ⟨o, k o ho, r⟩)
structure Laid (tps : List (List Value)) (lo : Addr) (h : Heap) (as : List Addr) : Prop where
  rise : as.Pairwise (· < ·)
  above : ∀ a ∈ as, lo < a
  tups : ∀ (j : Nat) (a : Addr), as[j]? = some a → ∃ t, tps[j]? = some t ∧ h.get? a = some { cls := .type "tuple", data := .seq t.toArray }
theorem Laid.there {tps : List (List Value)} {lo : Addr} {h : Heap} {as : List Addr} (g : Laid tps lo h as) {a : Addr} (ha : a ∈ as) : a < h.objs.size := by
  obtain ⟨j, hj⟩ := List.mem_iff_getElem?.mp ha
  obtain ⟨_, _, e⟩ := g.tups j a hj
  exact Heap.lt_size e
end DZ
set_option Elab.async false
set_option linter.all false
set_option maxRecDepth 100000
set_option maxHeartbeats 4000000
set_option autoImplicit false
namespace DL
open PySem PySem.Spec PyProof.Rows L2
variable [Tx]
def zip2 (xs ys : List PyData) : List PyData := List.zipWith (fun a b => .tuple [a, b]) xs ys
def zip3 (xs ys zs : List PyData) : List PyData := List.zipWith (fun a l => match l with | .tuple l => .tuple (a :: l) | x => x) xs (zip2 ys zs)
def iZipS2 (da : DA) : DI := fun g k => da g fun rs g1 => ∃ (x1 : PyData) (t1 : Bool) (ds1 : List PyData) (x2 : PyData) (t2 : Bool) (ds2 : List PyData), rs = [R.d x1, R.d x2] ∧ seqOf g1 (.d x1) = some (t1, ds1) ∧ seqOf g1 (.d x2) = some (t2, ds2) ∧ ds2.length = ds1.length ∧ k (zip2 ds1 ds2) g1
theorem mkP2 {X : Cx} {e1 e2 : Expr} {ta : TA} {p pos : Pos} {pins : List (Addr × Obj)} {s : Shared} {σ : L2.St} {H : Hp} (R : Addr → Bool → List V → Addr → Bool → List V → Hp → Prop) (hg : Gl X "zip") (hm : X.mg "zip" = none) (ha : PA X [e1, e2] ta) (hs : starEach [e1, e2] X.env = (false, eval e1 X.env) :: starEach [e2] X.env := by rfl) (hpl : (backTo pos (starEach [e2] X.env)).any (·.1) = false := by rfl) (I : Inv X pins σ H s)
    (h : ta σ H fun vs H1 => ∃ (a1 : Addr) (t1 : Bool) (xs1 : List V) (a2 : Addr) (t2 : Bool) (xs2 : List V), vs = [V.ref a1, V.ref a2] ∧ SqB X.K t1 H1 a1 xs1 ∧ SqB X.K t2 H1 a2 xs2 ∧ R a1 t1 xs1 a2 t2 xs2 H1) :
    wpAny (model X.prog X.w) X.A (eval (.Call (.Name "zip" p) [e1, e2] [] pos) X.env) (fun v s2 => ∃ (s1 : Shared) (h' : Heap) (H1 : Hp) (a1 : Addr) (t1 : Bool) (xs1 : List V) (a2 : Addr) (t2 : Bool) (xs2 : List V), v = .ref (s1.heap.objs.size + 4) ∧ s2 = { s1 with heap := h' } ∧ Inv X pins σ H1 s1 ∧ SqB X.K t1 H1 a1 xs1 ∧ SqB X.K t2 H1 a2 xs2 ∧ R a1 t1 xs1 a2 t2 xs2 H1 ∧
      DZ.IsZP h' (s1.heap.objs.size + 4) (s1.heap.objs.size + 2) (s1.heap.objs.size + 3) .none false ∧ IsTupOf2 h' (s1.heap.objs.size + 2) (.ref s1.heap.objs.size) (.ref (s1.heap.objs.size + 1)) ∧ IsTupOf2 h' (s1.heap.objs.size + 3) .none .none ∧ DZ.IterAt t1 h' s1.heap.objs.size a1 0 ∧ DZ.IterAt t2 h' (s1.heap.objs.size + 1) a2 0 ∧ h'.objs.size = s1.heap.objs.size + 5 ∧ (∀ c o, s1.heap.get? c = some o → h'.get? c = some o)) X.xe s := by
  refine wpAny_Call_Name_kw (ld_blt I hg hm PyProof.Rows.boot_zip ?_)
  refine PyProof.Rows.callWith_type1 (thn (ha.run pos pins s σ H _ I h) fun us s2 ⟨vs, H2, I2, r1, q1⟩ => ?_) hs hpl
  obtain ⟨a1, t1, xs1, a2, t2, xs2, ex, hq1, hq2, q⟩ := q1
  subst ex
  have eus : us = [Value.ref a1, Value.ref a2] := by
    cases r1 with
    | cons r1a r1b =>
      cases r1b with
      | cons r2a r2b =>
        cases r2b
        cases r1a
        cases r2a
        rfl
  subst eus
  obtain ⟨its1, rv1, p1, _⟩ := seqB_at I2 hq1
  obtain ⟨its2, rv2, p2, _⟩ := seqB_at I2 hq2
  exact zip_begins2 (DZ.beginsB t1 a1 its1.toArray) (DZ.beginsB t2 a2 its2.toArray) p1 p2 fun h' hz hTI hTO g1 g2 hsz hk => ⟨s2, h', H2, a1, t1, xs1, a2, t2, xs2, rfl, rfl, I2, hq1, hq2, q, hz, hTI, hTO, DZ.IterAt.start g1, DZ.IterAt.start g2, hsz, hk⟩
def iZP2 (K : PySem.W.Frag) (ta : TA) : TI := fun σ H R => ta σ H fun vs H1 => ∃ (a1 : Addr) (t1 : Bool) (xs1 : List V) (a2 : Addr) (t2 : Bool) (xs2 : List V), vs = [V.ref a1, V.ref a2] ∧ SqB K t1 H1 a1 xs1 ∧ SqB K t2 H1 a2 xs2 ∧ R (ItZ2 K t1 a1 t2 a2) H1
theorem pi_zP2 {X : Cx} {e1 e2 : Expr} {ta : TA} {p pos tpos : Pos} {elts : List Expr} {kk : Nat} (hg : Gl X "zip") (hm : X.mg "zip" = none) (ha : PA X [e1, e2] ta) (hs : starEach [e1, e2] X.env = (false, eval e1 X.env) :: starEach [e2] X.env := by rfl) (hpl : (backTo pos (starEach [e2] X.env)).any (·.1) = false := by rfl) :
    PI X (.Tuple elts kk tpos) (.Call (.Name "zip" p) [e1, e2] [] pos) (iZP2 X.K ta) := by
  refine ⟨fun pins s σ H R I h => ?_⟩
  refine thn (mkP2 (fun a1 t1 xs1 a2 t2 xs2 H1 => R (ItZ2 X.K t1 a1 t2 a2) H1) hg hm ha hs hpl I h) ?_
  rintro v s2 ⟨s1, h', H1, a1, t1, xs1, a2, t2, xs2, rfl, rfl, I1, hq1, hq2, q, hz, hTI, hTO, g1, g2, hsz, hk⟩
  obtain ⟨its1, rv1, p1, _⟩ := seqB_at I1 hq1
  have la1 := DZ.ItemsAt.lt p1
  obtain ⟨its2, rv2, p2, _⟩ := seqB_at I1 hq2
  have la2 := DZ.ItemsAt.lt p2
  have D := zip_sep2 (N := s1.heap.objs.size) (fp1 := [a1]) (fp2 := [a2]) (fun b hb => by rw [List.mem_singleton.mp hb]; exact la1) (fun b hb => by rw [List.mem_singleton.mp hb]; exact la2)
  refine DZ.iterP hz ?_
  have I2 : Inv X pins σ H1 { s1 with heap := h' } := I1.kept (t' := s1.toks) hk
  refine ⟨(s1.heap.objs.size + 4), [(s1.heap.objs.size + 4), (s1.heap.objs.size + 2), (s1.heap.objs.size + 3), s1.heap.objs.size, (s1.heap.objs.size + 1)], _, _, H1, rfl, I2, turnP2 D (Nat.ne_of_lt (Nat.lt_of_lt_of_le la1 (Nat.le_add_right _ 0))) (Nat.ne_of_lt (Nat.lt_of_lt_of_le la2 (Nat.le_add_right _ 1))), ⟨hz, hTI, ⟨_, _, hTO⟩, g1, g2⟩, fun c hcm => ?_, q⟩
  have e' : c = (s1.heap.objs.size + 4) ∨ c = (s1.heap.objs.size + 2) ∨ c = (s1.heap.objs.size + 3) ∨ c = s1.heap.objs.size ∨ c = (s1.heap.objs.size + 1) := by simpa using hcm
  have hle : s1.heap.objs.size ≤ c := by
    rcases e' with q | q | q | q | q <;> rw [q] <;> first | exact Nat.le_refl _ | exact Nat.le_add_right _ _
  exact I1.fpOk hle (I1.hok.fresh hle)
def iZipP2 (da : DA) : DI := fun g k => da g fun rs g1 => ∃ (x1 : PyData) (t1 : Bool) (ds1 : List PyData) (x2 : PyData) (t2 : Bool) (ds2 : List PyData), rs = [R.d x1, R.d x2] ∧ seqOf g1 (.d x1) = some (t1, ds1) ∧ seqOf g1 (.d x2) = some (t2, ds2) ∧ ds2.length = ds1.length ∧ k (zip2 ds1 ds2) g1
theorem seqd {K : PySem.W.Frag} {B : Hp} {g : G} {v : V} {x : PyData} {t : Bool} {ds : List PyData} (ek : K = Tx.fr) (h : Dq B v x) (e : seqOf g (.d x) = some (t, ds)) : ∃ a xs, v = .ref a ∧ SqB K t B a xs ∧ DqAll B xs ds := by
  cases x with
  | list es =>
    have e : (false, es) = (t, ds) := Option.some.inj e
    cases e
    obtain ⟨a, xs, e1, e2, e3⟩ := dq_list h
    exact ⟨a, xs, e1, .inl (.inl e2), e3⟩
  | tuple es =>
    have e : (true, es) = (t, ds) := Option.some.inj e
    cases e
    obtain ⟨a, xs, e1, e2, e3⟩ := dq_tup h
    exact ⟨a, xs, e1, ek ▸ e2.sq, e3⟩
  | _ => cases e
theorem walk_z2 {K : KR} {B0 : Hp} {a1 a2 : Addr} {t1 t2 : Bool} {xs1 xs2 : List V} {ds1 ds2 : List PyData} (h1 : SqB K.fr t1 B0 a1 xs1) (h2 : SqB K.fr t2 B0 a2 xs2) (d1 : DqAll B0 xs1 ds1) (d2 : DqAll B0 xs2 ds2) (el : ds2.length = ds1.length) : WalkOk K B0 (ItZ2 K.fr t1 a1 t2 a2) (zip2 ds1 ds2) := fun F g tm s H B al i S e => by
  have q1 : SqB K.fr t1 H a1 xs1 := same_b S.bh (same_b e h1)
  have q2 : SqB K.fr t2 H a2 xs2 := same_b S.bh (same_b e h2)
  have l1 := dqall_len d1
  have l2 := dqall_len d2
  have zl : (zip2 ds1 ds2).length = ds1.length := by unfold zip2; rw [List.length_zipWith]; omega
  refine ⟨fun d hd => ?_, fun hi => ⟨xs1, xs2, q1, q2, by omega, by omega⟩⟩
  have hlt : i < ds1.length := by rw [← zl]; exact (List.getElem?_eq_some_iff.mp hd).1
  have g1 : ds1[i]? = some ds1[i] := List.getElem?_eq_getElem hlt
  have g2 : ds2[i]? = some ds2[i] := List.getElem?_eq_getElem (by omega)
  have ed : d = .tuple [ds1[i], ds2[i]] := by
    unfold zip2 at hd
    simp only [List.getElem?_zipWith, g1, g2] at hd
    exact (Option.some.inj hd).symm
  subst ed
  obtain ⟨x1, f1, c1⟩ := dqall_get d1 g1
  obtain ⟨x2, f2, c2⟩ := dqall_get d2 g2
  refine ⟨⟨xs1, xs2, x1, x2, xs1.length, q1, q2, rfl, by omega, f1, f2⟩, fun y H' ⟨T, ob, y1, y2, ey, hT, hn, eH, u1, u2⟩ => ?_⟩
  subst ey eH
  have e1 := u1 xs1 q1
  rw [f1] at e1
  cases e1
  have e2 := u2 xs2 q2
  rw [f2] at e2
  cases e2
  have nB : Same B (upd B T (.frz ob (.tup [x1, x2]))) := same_new (S.bh.free hT)
  exact ⟨upd B T (.frz ob (.tup [x1, x2])), S.grow hT, nB, .tup (.inl ⟨ob, upd_same, hn⟩) (.cons (dq_mono (e.trans nB) c1) (.cons (dq_mono (e.trans nB) c2) .nil))⟩
section
variable {ρ : Root} {X : Cx} {e1 e2 e3 : Expr} {da : DA} {p pos tpos pl posl : Pos} {kc kk : Nat} {pc kp : Pos} {elts : List Expr}
theorem pdi_zipP2 (hg : Gl X "zip") (hm : X.mg "zip" = none) (ha : PDA ρ X [e1, e2] da) (hs : starEach [e1, e2] X.env = (false, eval e1 X.env) :: starEach [e2] X.env := by rfl) (hpl : (backTo pos (starEach [e2] X.env)).any (·.1) = false := by rfl) :
    PDI ρ X (.Tuple elts kk tpos) (.Call (.Name "zip" p) [e1, e2] [] pos) (iZipP2 da) := pi_imp (pi_zP2 hg hm ha hs hpl) fun s H Q ⟨F, g, tm, k, B, al, S, hk, q⟩ => ⟨F, g, tm, _, B, al, S, hk, fun vs H1 rs g1 B1 al1 ⟨x1, t1, ds1, x2, t2, ds2, er, s1, s2, el2, hk1⟩ S1 pr => by
    subst er
    obtain ⟨v1, v2, rfl, h1, h2⟩ := pair2 pr
    obtain ⟨a1, xs1, rfl, b1, c1⟩ := seqd (K := X.K) S1.tx h1 s1
    obtain ⟨a2, xs2, rfl, b2, c2⟩ := seqd (K := X.K) S1.tx h2 s2
    exact ⟨a1, t1, xs1, a2, t2, xs2, rfl, same_b S1.bh b1, same_b S1.bh b2, q _ H1 _ g1 B1 al1 hk1 S1 (walk_z2 b1 b2 c1 c2 el2)⟩⟩
end
end DL
set_option Elab.async false
set_option linter.all false
set_option maxRecDepth 100000
set_option maxHeartbeats 4000000
set_option autoImplicit false
namespace DL
open PySem PySem.Spec PyProof.Rows L2
variable [Tx]
theorem un65 {k : Nat} {A : Around} (r : Room k A) : A.units + 65 < cLine := by have := r.un; omega
theorem un1 {k : Nat} {A : Around} (r : Room k A) : A.units + 1 < cLine := by have := r.un; omega
theorem seqr {K : KR} {B : Hp} {al : List Addr} {g : G} {v : V} {r : R} {t : Bool} {ds : List PyData} (ek : K.fr = Tx.fr) (h : RvOk K B al v r) (hn : noO r = true) (e : seqOf g r = some (t, ds)) : ∃ a xs, v = .ref a ∧ SqB K.fr t B a xs ∧ DqAll B xs ds := by
  cases r with
  | d x => exact seqd ek h e
  | o j => cases hn
  | x n => cases e
  | m ct => cases e
  | l js => cases e
  | t _ _ => cases e
  | f j ds => cases e
  | u nd es =>
    have e : (true, es) = (t, ds) := Option.some.inj e
    cases e
    obtain ⟨a, xs, e1, e2, _, e3⟩ := h
    exact ⟨a, xs, e1, e2, e3⟩
  | s ns =>
    have e : (false, ns.map PyData.int) = (t, ds) := Option.some.inj e
    cases e
    obtain ⟨a, e1, e2⟩ := h
    exact ⟨a, ns.map V.int, e1, e2, dqall_mkints ns⟩
section
variable {ρ : Root} {X : Cx} {st : Stmt} {e c tg : Expr} {pos : Pos} {K : KR}
def iSqB (K : PySem.W.Frag) (te : TE) : TI := fun σ H R => te σ H fun v H1 => ∃ a, v = .ref a ∧ (((∃ xs, SqL K H1 a xs) ∧ R (Itl K a) H1) ∨ ((∃ xs, SqT K H1 a xs) ∧ R (Itt K a) H1))
theorem pi_sqB {l : Expr} {tl : TE} (hl : PE X l tl) : PI X tg l (iSqB X.K tl) := by
  refine ⟨fun pins s σ H R I h => ?_⟩
  refine thn (hl.run pins s σ H _ I h) fun v s1 ⟨x, H1, I1, r1, q1⟩ => ?_
  obtain ⟨a, e, q1⟩ := q1
  subst e
  cases r1
  have fp : ∀ b ∈ [s1.heap.objs.size], FpOk X pins H1 b := fun b hb => by
    have e : b = s1.heap.objs.size := by simpa using hb
    subst e
    exact I1.fpOk (Nat.le_refl _) (I1.hok.fresh (Nat.le_refl _))
  rcases q1 with ⟨⟨xs, hq⟩, q⟩ | ⟨⟨xs, hq⟩, q⟩
  · obtain ⟨its, rv, p, hz⟩ := I1.list hq
    refine wpAny_pyIter_list p.isList ?_
    exact ⟨s1.heap.objs.size, [s1.heap.objs.size], _, _, H1, rfl, I1.kept (t' := s1.toks) fun b o e => Heap.get?_push_of_some _ e, turn_list a _, ⟨_, Heap.get?_push_size _ rfl, rfl, rfl⟩, fp, q⟩
  · obtain ⟨its, rv, p, hz⟩ := I1.tuple hq
    refine wpAny_pyIter_tuple (show s1.heap.IsTuple a its.toArray from p) ?_
    exact ⟨s1.heap.objs.size, [s1.heap.objs.size], _, _, H1, rfl, I1.kept (t' := s1.toks) fun b o e => Heap.get?_push_of_some _ e, turn_tuple a _, ⟨_, Heap.get?_push_size _ rfl, rfl, rfl⟩, fp, q⟩
def iSq (de : DE) : DI := fun g k => de g fun r g1 => ∃ t ds, noO r = true ∧ seqOf g1 r = some (t, ds) ∧ k ds g1
theorem walk_t {B : Hp} {a : Addr} {xs : List V} {ds : List PyData} (ha : SqT K.fr B a xs) (h : DqAll B xs ds) : WalkOk K B (Itt K.fr a) ds := fun F g tm s H B1 al i S e => by
  have hq : SqT K.fr H a xs := same_t S.bh (same_t e ha)
  refine ⟨fun d hd => ?_, fun hi => ⟨xs, hq, by rw [dqall_len h]; omega⟩⟩
  obtain ⟨x, h1, h2⟩ := dqall_get h hd
  refine ⟨⟨xs, x, hq, h1⟩, fun y H' ⟨e1, e2⟩ => ?_⟩
  subst e1
  have ey := e2 xs hq
  rw [h1] at ey
  cases ey
  exact ⟨B1, S, Same.refl _, dq_mono e h2⟩
theorem walk_l {B : Hp} {a : Addr} {xs : List V} {ds : List PyData} (ha : SqL K.fr B a xs) (h : DqAll B xs ds) : WalkOk K B (Itl K.fr a) ds := fun F g tm s H B1 al i S e => by
  have hq : SqL K.fr H a xs := same_l S.bh (same_l e ha)
  refine ⟨fun d hd => ?_, fun hi => ⟨xs, hq, by rw [dqall_len h]; omega⟩⟩
  obtain ⟨x, h1, h2⟩ := dqall_get h hd
  refine ⟨⟨xs, x, hq, h1⟩, fun y H' ⟨e1, e2⟩ => ?_⟩
  subst e1
  have ey := e2 xs hq
  rw [h1] at ey
  cases ey
  exact ⟨B1, S, Same.refl _, dq_mono e h2⟩
theorem pdi_seq {l : Expr} {de : DE} (h : PD ρ X l de) : PDI ρ X tg l (iSq de) := pi_imp (pi_sqB h) fun s H Q ⟨F, g, tm, k, B, al, S, hk, q⟩ => ⟨F, g, tm, _, B, al, S, hk, fun v H1 r g1 B1 al1 ⟨t, ds, hn, hs, hk1⟩ S1 => by
    obtain ⟨a, xs, e0, h1, h2⟩ := seqr (K := ⟨X.K, ρ⟩) S1.tx (S1.top rfl) hn hs
    have e0 : v = .ref a := e0
    subst e0
    refine ⟨a, rfl, ?_⟩
    cases t with
    | false => exact .inl ⟨⟨xs, same_l S1.bh h1⟩, q _ H1 ds g1 B1 al1 hk1 (S1.temps fun p hp => List.mem_cons_of_mem _ hp) (walk_l h1 h2)⟩
    | true => exact .inr ⟨⟨xs, same_t S1.bh h1⟩, q _ H1 ds g1 B1 al1 hk1 (S1.temps fun p hp => List.mem_cons_of_mem _ hp) (walk_t h1 h2)⟩⟩
end
abbrev IKs := List (Key × PyData)
theorem app_ok {α β : Type} {F : α → β → Prop} : ∀ {us us' : List α} {ks ks' : List β}, Paired F us ks → Paired F us' ks' → Paired F (us ++ us') (ks ++ ks')
  | _, _, _, _, .nil, h => h
  | _, _, _, _, .cons a b, h => .cons a (app_ok b h)
section
variable {ρ : Root} {X : Cx} {a b e o i value : Expr} {es : List Expr} {pos pos' : Pos} {K : KR}
def dDict0 : DE := fun g k => k (.o g.ce.length) { g with ce := g.ce ++ [.dK []] }
theorem pd_dict0 : PD ρ X (.Dict [] [] pos) dDict0 := pe_imp pe_dnewK fun s H Q ⟨F, g, tm, k, B, al, S, hk, q⟩ => fun p hp => q _ _ _ _ B (al ++ [p]) hk ((S.own hp (ct := .dK []) ⟨[], upd_same, .nil⟩).push ⟨p, S.own_at, rfl⟩)
theorem keys_ok {B : Hp} : ∀ {us : List (Key × V)} {kvs : IKs}, Paired (fun (p : Key × V) (q : Key × PyData) => p.1 = q.1 ∧ Dq B p.2 q.2) us kvs → us.map (·.1) = kvs.map (·.1)
  | _, _, .nil => rfl
  | _, _, .cons h t => by rw [List.map_cons, List.map_cons, h.1, keys_ok t]
end
theorem fun_of {K : PySem.W.Frag} {x qual : Str} {st : Stmt} {f : Addr} {fd : FuncData} {kws : List (Str × V)} (F : FunD K x qual (defArgs st) (defBody st) (defScope st) [] kws f fd) : Fun K x qual st f fd := by
  obtain ⟨oc, od, dV, kV, doc, pm, an, cdv, ct, osl, rfl, lk, hcd, hD, hK⟩ := F.ex
  rcases hD with ⟨_, rfl⟩ | ⟨e, _⟩
  · exact ⟨⟨oc, od, kV, doc, pm, an, cdv, ct, osl, rfl, lk, hcd⟩, F.kp⟩
  · exact absurd rfl e
end DL
set_option Elab.async false
set_option linter.all false
set_option maxRecDepth 100000
set_option maxHeartbeats 4000000
set_option autoImplicit false
namespace DL
open PySem PySem.Spec PyProof.Rows L2
variable [Tx]
section
variable {ρ : Root} {X : Cx} {e : Expr} {es : List Expr} {p pos : Pos} {da : DA}
theorem pd_len (hc : X.calm = true) (hg : Gl X "len") (hm : X.mg "len" = none) (ha : PDA ρ X (e :: es) da) (he : starEach (e :: es) X.env = (false, eval e X.env) :: starEach es X.env := by rfl) (hpl : (backTo pos (starEach es X.env)).any (·.1) = false := by rfl) :
    PD ρ X (.Call (.Name "len" p) (e :: es) [] pos) (dCall cLen da) := pd_callB call_len_seq ref_len hg hm PySem.boot_len ha (by decide) (by decide) he hpl
theorem pd_abs (hc : X.calm = true) (hg : Gl X "abs") (hm : X.mg "abs" = none) (ha : PDA ρ X (e :: es) da) (he : starEach (e :: es) X.env = (false, eval e X.env) :: starEach es X.env := by rfl) (hpl : (backTo pos (starEach es X.env)).any (·.1) = false := by rfl) :
    PD ρ X (.Call (.Name "abs" p) (e :: es) [] pos) (dCall cAbs da) := pd_callB call_abs ref_abs hg hm (by decide +kernel) ha (by decide) (by decide) he hpl
theorem pd_max2 (hc : X.calm = true) (hg : Gl X "max") (hm : X.mg "max" = none) (ha : PDA ρ X (e :: es) da) (he : starEach (e :: es) X.env = (false, eval e X.env) :: starEach es X.env := by rfl) (hpl : (backTo pos (starEach es X.env)).any (·.1) = false := by rfl) :
    PD ρ X (.Call (.Name "max" p) (e :: es) [] pos) (dCall cMax2 da) := pd_callB (call_max2 hc) ref_max2 hg hm (by decide +kernel) ha (by decide) (by decide) he hpl
theorem pd_min2 (hc : X.calm = true) (hg : Gl X "min") (hm : X.mg "min" = none) (ha : PDA ρ X (e :: es) da) (he : starEach (e :: es) X.env = (false, eval e X.env) :: starEach es X.env := by rfl) (hpl : (backTo pos (starEach es X.env)).any (·.1) = false := by rfl) :
    PD ρ X (.Call (.Name "min" p) (e :: es) [] pos) (dCall cMin2 da) := pd_callB (call_min2 hc) ref_min2 hg hm (by decide +kernel) ha (by decide) (by decide) he hpl
theorem pd_int1 (hc : X.calm = true) (hg : Gl X "int") (hm : X.mg "int" = none) (ha : PDA ρ X (e :: es) da) (he : starEach (e :: es) X.env = (false, eval e X.env) :: starEach es X.env := by rfl) (hpl : (backTo pos (starEach es X.env)).any (·.1) = false := by rfl) :
    PD ρ X (.Call (.Name "int" p) (e :: es) [] pos) (dCall cIntB da) := pd_callTy call_int1 ref_intB hg hm (by decide +kernel) ha (by decide) (by decide) he hpl
theorem pd_list1 (hc : X.calm = true) (hg : Gl X "list") (hm : X.mg "list" = none) (ha : PDA ρ X (e :: es) da) (he : starEach (e :: es) X.env = (false, eval e X.env) :: starEach es X.env := by rfl) (hpl : (backTo pos (starEach es X.env)).any (·.1) = false := by rfl) :
    PD ρ X (.Call (.Name "list" p) (e :: es) [] pos) (dCall cList da) := pd_callTy call_list_of ref_list hg hm (by decide +kernel) ha (by decide) (by decide) he hpl
theorem pd_list1O (hc : X.calm = true) (hg : Gl X "list") (hm : X.mg "list" = none) (ha : PDA ρ X (e :: es) da) (he : starEach (e :: es) X.env = (false, eval e X.env) :: starEach es X.env := by rfl) (hpl : (backTo pos (starEach es X.env)).any (·.1) = false := by rfl) :
    PD ρ X (.Call (.Name "list" p) (e :: es) [] pos) (dCall cListO da) := pd_callTy call_list_of ref_listO hg hm (by decide +kernel) ha (by decide) (by decide) he hpl
theorem pd_tuple1 (hc : X.calm = true) (hg : Gl X "tuple") (hm : X.mg "tuple" = none) (ha : PDA ρ X (e :: es) da) (he : starEach (e :: es) X.env = (false, eval e X.env) :: starEach es X.env := by rfl) (hpl : (backTo pos (starEach es X.env)).any (·.1) = false := by rfl) :
    PD ρ X (.Call (.Name "tuple" p) (e :: es) [] pos) (dCall cTuple da) := pd_callTy call_tupleN ref_tuple hg hm (by decide +kernel) ha (by decide) (by decide) he hpl
theorem pd_all1 (hc : X.calm = true) (hg : Gl X "all") (hm : X.mg "all" = none) (ha : PDA ρ X (e :: es) da) (he : starEach (e :: es) X.env = (false, eval e X.env) :: starEach es X.env := by rfl) (hpl : (backTo pos (starEach es X.env)).any (·.1) = false := by rfl) :
    PD ρ X (.Call (.Name "all" p) (e :: es) [] pos) (dCall cAll da) := pd_callB (cr_all hc) ref_all hg hm (by decide +kernel) ha (by decide) (by decide) he hpl
end
end DL
set_option Elab.async false
set_option linter.all false
set_option maxRecDepth 100000
set_option maxHeartbeats 4000000
set_option autoImplicit false
namespace DL
open PySem PySem.Spec PyProof.Rows L2
variable [Tx]
section
variable {ρ : Root} {X : Cx} {o e : Expr} {es : List Expr} {pos : Pos} {K : KR}
/-- own.extend(a list) -/
def mExtend : DM := fun r rs g k => ∃ j ds r1 es, r = .o j ∧ rs = [r1] ∧ isMade r1 = true ∧ g.ce[j]? = some (.lst ds) ∧ seqOf g r1 = some (false, es) ∧ ds.length + es.length ≤ 100000 ∧ k (.d .none) { g with ce := g.ce.set j (.lst (ds ++ es)) }
theorem ref_extend : RefM K rExtend mExtend := by
  rintro F g tm s H B al x vs r0 rs k Q S hx pr ⟨j, ds, r1, es, rfl, rfl, hm, hc, hs, hz, hk⟩ q
  obtain ⟨p, hp, rfl⟩ := hx
  obtain ⟨v, rfl, hv⟩ := pair1 pr
  obtain ⟨xs, h1, h2⟩ := S.ce j p _ hp hc
  obtain ⟨b, zs, rfl, h3, h4⟩ := S.seqM hv hs hm
  refine ⟨p, b, xs, zs, rfl, rfl, h1, h3, ?_, q _ _ _ _ B al hk (S.put hp hc (by simp) ⟨_, upd_same, dqall_app h2 h4⟩) Dq.non⟩
  rw [dqall_len h2, dqall_len h4]
  exact Nat.le_trans hz (by unfold sizeLine; decide)
theorem pd_extend {apos cpos : Pos} {dd : DE} {da : DA} (ho : PD ρ X o dd) (ha : PDA ρ X (e :: es) da)
    (hbase : attributeBase o "extend" X.env (eval o X.env) = eval o X.env := by rfl)
    (hfew : ((backTo cpos (starEach (e :: es) X.env)).all (fun x => !x.1) && (backToKw cpos (keywordEach [] X.env)).all (fun x => x.1.isSome) && decide ((e :: es).length + ([] : List Keyword).length + (if ([] : List Keyword).isEmpty then 0 else 1) < 30)) = true := by rfl)
    (hline : (apos.endLine == cpos.line) = true := by rfl) (hs : starEach (e :: es) X.env = (false, eval e X.env) :: starEach es X.env := by rfl) (hplain : (backTo cpos (starEach es X.env)).any (·.1) = false := by rfl) :
    PD ρ X (.Call (.Attribute o "extend" apos) (e :: es) [] cpos) (dMeth mExtend dd da) :=
  pd_meth PySem.F.slot_list_extend PySem.F.type_list_extend mt_extend ref_extend ho ha hbase hfew hline hs hplain
end
end DL
set_option Elab.async false
set_option linter.all false
set_option maxRecDepth 100000
set_option maxHeartbeats 4000000
set_option autoImplicit false
namespace DL
open PySem PySem.Spec PyProof.Rows L2
variable [Tx]
def ctTy : Option Ct → Option String
  | some (.lst _) => some "list"
  | some (.dK _) => some "dict"
  | some (.dT _) => some "dict"
  | _ => none
def tyOf (g : G) : R → Option String
  | .d .none => some "NoneType"
  | .d (.bool _) => some "bool"
  | .d (.int _) => some "int"
  | .d (.str _) => some "str"
  | .d (.list _) => some "list"
  | .d (.tuple _) => some "tuple"
  | .d (.dict _) => none
  | .s _ => some "list"
  | .o j => ctTy g.ce[j]?
  | .u _ _ => some "tuple"
  | _ => none
def isaB (a b : String) : Bool := a == b || (a == "bool" && b == "int")
theorem kit_all {K : PySem.W.Frag} {a b : String} (ha : a = "NoneType" ∨ a = "bool" ∨ a = "int" ∨ a = "str" ∨ a = "list" ∨ a = "tuple" ∨ a = "dict") (hb : b = "bool" ∨ b = "int" ∨ b = "str" ∨ b = "list" ∨ b = "tuple" ∨ b = "dict") : PySem.W.kitOne K (.type a) (.type b) = some (isaB a b) := by
  refine kit_ty ?_
  rcases ha with rfl | rfl | rfl | rfl | rfl | rfl | rfl <;> rcases hb with rfl | rfl | rfl | rfl | rfl | rfl <;> decide +kernel
theorem tyOf_names {g : G} {r : R} {t : String} (h : tyOf g r = some t) : t = "NoneType" ∨ t = "bool" ∨ t = "int" ∨ t = "str" ∨ t = "list" ∨ t = "tuple" ∨ t = "dict" := by
  cases r with
  | d x => cases x <;> simp [tyOf] at h <;> simp [← h]
  | s ns => simp [tyOf] at h; simp [← h]
  | x n => cases h
  | m ct => cases h
  | l js => cases h
  | t _ _ => cases h
  | f j ds => cases h
  | u nd ds => simp [tyOf] at h; simp [← h]
  | o j =>
    have h : ctTy g.ce[j]? = some t := h
    cases hc : g.ce[j]? with
    | none => rw [hc] at h; cases h
    | some ct => rw [hc] at h; cases ct <;> cases h <;> simp
theorem sqL_ty {K : PySem.W.Frag} {H : Hp} {a : Addr} {xs : List V} (h : SqL K H a xs) : TyX K H (.ref a) (.type "list") := by
  rcases h with (h | ⟨o, h⟩) | ⟨o, _, _, hl, hc, _⟩
  · exact .base (.lst h)
  · exact .base (.frz h)
  · exact .kList hl hc
theorem sqT_ty {K : PySem.W.Frag} {H : Hp} {a : Addr} {xs : List V} (h : SqT K H a xs) : TyX K H (.ref a) (.type "tuple") := by
  rcases h with (h | ⟨o, h⟩) | ⟨o, _, _, hl, hc, _⟩
  · exact .base (.tup h)
  · exact .fTuple h
  · exact .kTuple hl hc
theorem Stt.ty {K : KR} {F : Fm} {g : G} {tm : List (V × R)} {s : L2.St} {H B : Hp} {al : List Addr} (S : Stt K F g tm s H B al) {v : V} {r : R} {t : String} (hv : RvOk K B al v r) (h : tyOf g r = some t) : TyX K.fr H v (.type t) := by
  cases r with
  | x n => cases h
  | m ct => cases h
  | l js => cases h
  | t _ _ => cases h
  | f j ds => cases h
  | u nd ds =>
    cases h
    obtain ⟨a, xs, rfl, e2, _, _⟩ := hv
    exact sqT_ty (same_t S.bh e2)
  | d x =>
    cases x with
    | none => cases h; rw [dq_none hv]; exact .base .non
    | bool b => cases h; rw [dq_bool hv]; exact .base (.bl b)
    | int b => cases h; rw [dq_int hv]; exact .base (.int b)
    | str b => cases h; rw [dq_str hv]; exact .base (.str b)
    | list ds =>
      cases h
      obtain ⟨a, xs, rfl, h1, _⟩ := dq_list hv
      exact .base (.lst (S.bh _ _ h1))
    | tuple ds =>
      cases h
      obtain ⟨a, xs, rfl, h1, _⟩ := dq_tup hv
      exact sqT_ty (S.nt h1)
    | dict _ => cases h
  | s ns =>
    cases h
    obtain ⟨a, rfl, h1⟩ := hv
    exact sqL_ty (same_l S.bh h1)
  | o j =>
    obtain ⟨a, ha, rfl⟩ := hv
    have h : ctTy g.ce[j]? = some t := h
    cases hc : g.ce[j]? with
    | none => rw [hc] at h; cases h
    | some ct =>
      rw [hc] at h
      cases ct with
      | dead => cases h
      | lst ds =>
        cases h
        obtain ⟨xs, h1, _⟩ := S.ce j a _ ha hc
        exact .base (.lst h1)
      | dK ds =>
        cases h
        obtain ⟨xs, h1, _⟩ := S.ce j a _ ha hc
        exact .base (.dK h1)
      | dT ds =>
        cases h
        obtain ⟨xs, h1, _⟩ := S.ce j a _ ha hc
        exact .base (.dT h1)
      | dN ds => cases h
      | dL ds => cases h
      | dF ds => cases h
      | ins _ _ _ => cases h
      | odx => cases h
      | lM _ => cases h
section
variable {ρ : Root} {X : Cx} {e : Expr} {p p1 p2 p3 pos : Pos} {K : KR}
def dIsi (T : String) (de : DE) : DE := fun g k => de g fun r g1 => ∃ t, tyOf g1 r = some t ∧ k (.d (.bool (isaB t T))) g1
def dIsi2 (T U : String) (de : DE) : DE := fun g k => de g fun r g1 => ∃ t, tyOf g1 r = some t ∧ k (.d (.bool (isaB t T || isaB t U))) g1
def isTy (T : String) : Prop := T = "bool" ∨ T = "int" ∨ T = "str" ∨ T = "list" ∨ T = "tuple" ∨ T = "dict"
theorem pd_isi {x : Str} {T : String} {de : DE} (hT : isTy T) (hg : Gl X "isinstance") (hm : X.mg "isinstance" = none) (hgT : Gl X x) (hmT : X.mg x = none) (hv : bootBuiltins x = some (.type T)) (he : PD ρ X e de) (hn : x ≠ "__name__" := by decide) (hd : (x == ("__debug__" : Str)) = false := by decide)
    (hs : starEach [e, .Name x p1] X.env = (false, eval e X.env) :: starEach [.Name x p1] X.env := by rfl) :
    PD ρ X (.Call (.Name "isinstance" p) [e, .Name x p1] [] pos) (dIsi T de) :=
  pe_imp (pe_callB call_isi hg hm (by decide +kernel) (pa_cons he (pa_cons (pe_bltn (v := .ty T) hgT hmT hv rfl hn hd) pa_nil rfl) hs) (by decide) (by decide) hs rfl) fun s H Q ⟨F, g, tm, k, B, al, S, hk, q⟩ => ⟨F, g, tm, _, B, al, S, hk, fun v H1 r g1 B1 al1 ⟨t, ht, hk1⟩ S1 => by
    refine ⟨v, .ty T, .type t, .type T, isaB t T, rfl, .ty T, S1.ty (S1.top rfl) ht, kit_all (tyOf_names ht) hT, ?_⟩
    exact q _ H1 _ g1 B1 al1 hk1 ((S1.temps (tm' := tm) fun p hp => List.mem_cons_of_mem _ hp).push (.bl _))⟩
theorem pd_isi2 {x y : Str} {T U : String} {de : DE} {kt : Nat} (hT : isTy T) (hU : isTy U) (hg : Gl X "isinstance") (hm : X.mg "isinstance" = none) (hgT : Gl X x) (hmT : X.mg x = none) (hv : bootBuiltins x = some (.type T)) (hgU : Gl X y) (hmU : X.mg y = none) (hvU : bootBuiltins y = some (.type U)) (he : PD ρ X e de)
    (hn : x ≠ "__name__" := by decide) (hd : (x == ("__debug__" : Str)) = false := by decide) (hn' : y ≠ "__name__" := by decide) (hd' : (y == ("__debug__" : Str)) = false := by decide)
    (hs : starEach [e, .Tuple [.Name x p1, .Name y p2] kt p3] X.env = (false, eval e X.env) :: starEach [.Tuple [.Name x p1, .Name y p2] kt p3] X.env := by rfl) :
    PD ρ X (.Call (.Name "isinstance" p) [e, .Tuple [.Name x p1, .Name y p2] kt p3] [] pos) (dIsi2 T U de) :=
  pe_imp (pe_callB call_isiT hg hm (by decide +kernel) (pa_cons he (pa_cons (pe_tup (pa_cons (pe_bltn (v := .ty T) hgT hmT hv rfl hn hd) (pa_cons (pe_bltn (v := .ty U) hgU hmU hvU rfl hn' hd') pa_nil rfl) rfl)) pa_nil rfl) hs) (by decide) (by decide) hs rfl) fun s H Q ⟨F, g, tm, k, B, al, S, hk, q⟩ => ⟨F, g, tm, _, B, al, S, hk, fun v H1 r g1 B1 al1 ⟨t, ht, hk1⟩ S1 => by
    refine ⟨by show 2 ≤ sizeLine; decide, fun tp htp => ?_⟩
    have S2 := S1.grow (o := .tup [.ty T, .ty U]) htp
    have hty := S2.ty (S2.top rfl) ht
    have any : PySem.W.kitAny X.K (.type t) [.type T, .type U] = some (isaB t T || isaB t U) := by
      refine kitAny_cons (kit_all (tyOf_names ht) hT) (fun e1 => ?_) (fun e1 => by rw [e1]; rfl)
      refine kitAny_cons (kit_all (tyOf_names ht) hU) (fun e2 => ?_) (fun e2 => by rw [e1, e2]; rfl)
      rw [e1, e2]
      exact kitAny_nil
    refine ⟨v, tp, [.ty T, .ty U], .type t, [.type T, .type U], _, rfl, upd_same, .cons (.ty T) (.cons (.ty U) .nil), hty, any, ?_⟩
    exact q _ _ _ g1 _ al1 hk1 ((S2.temps (tm' := tm) fun p hp => List.mem_cons_of_mem _ hp).push (.bl _))⟩
end
end DL
set_option Elab.async false
set_option linter.all false
set_option maxRecDepth 100000
set_option maxHeartbeats 4000000
set_option autoImplicit false
namespace DLR
open PySem PySem.Spec PyProof.Rows HT
section
variable {prog : Program} {w : World} {A : Around} {E : Value → Shared → Prop} {s : Shared}
theorem places_rev (n : Nat) : Builtin.Slice.slicePlaces ((n : Int) - 1) (-1) (-1) = n := by
  unfold Builtin.Slice.slicePlaces
  have h1 : ¬ ((-1 : Int) > 0) := by omega
  simp only [h1, if_false]
  by_cases h : (n : Int) - 1 > -1
  · simp only [h, if_true]
    have : ((n : Int) - 1 - -1 - 1) / (- -1) + 1 = n := by
      rw [show (- -1 : Int) = 1 by decide, Int.ediv_one]; omega
    rw [this]; simp
  · simp only [h, if_false]; omega
theorem pick_rev (xs : Array Value) : ((List.range xs.size).filterMap fun (k : Nat) => xs[(((xs.size : Nat) : Int) - 1 + (k : Int) * -1).toNat]?).toArray = xs.toList.reverse.toArray := by
  congr 1
  have e : ∀ k ∈ List.range xs.size, xs[(((xs.size : Nat) : Int) - 1 + (k : Int) * -1).toNat]? = some (xs.toList.reverse.getD k .none) := fun k hk => by
    have hk := List.mem_range.mp hk
    rw [show (((xs.size : Nat) : Int) - 1 + (k : Int) * -1).toNat = xs.size - 1 - k by omega]
    rw [List.getD_eq_getElem?_getD, List.getElem?_reverse (by simpa using hk)]
    simp only [Array.length_toList, Array.getElem?_toList]
    rw [Array.getElem?_eq_getElem (by omega)]
    rfl
  have gen : ∀ (l : List Nat) (f : Nat → Option Value) (g : Nat → Value), (∀ k ∈ l, f k = some (g k)) → l.filterMap f = l.map g := by
    intro l f g
    induction l with
    | nil => intro _; rfl
    | cons a l ih => intro h; rw [List.filterMap_cons, h a List.mem_cons_self, ih fun k hk => h k (List.mem_cons_of_mem _ hk)]; rfl
  rw [gen _ _ _ e]
  apply List.ext_getElem
  · simp
  · intro i h1 h2
    rw [List.getElem_map, List.getElem_range, List.getD_eq_getElem?_getD, List.getElem?_eq_getElem h2]
    rfl
theorem getItem_tuple_rev {t sl : Addr} {items : Array Value} {vs : Value} {Q : Value → Shared → Prop} (ht : IsTup s.heap t items) (hs : s.heap.IsSliceOf sl .none .none vs) (ps : IsPart vs (some (-1)))
    (h : Q (.ref s.heap.objs.size) { s with heap := s.heap.push { cls := .type "tuple", data := .seq items.toList.reverse.toArray } })
    (hsz : items.size ≤ sizeLine) : wpAny (model prog w) A (getItem (.ref t) (.ref sl)) Q E s := by
  have htake : sizeOk (.seq items.toList.reverse.toArray) := by
    show items.toList.reverse.toArray.size ≤ sizeLine
    rw [List.size_toArray, List.length_reverse, Array.length_toList]
    exact hsz
  obtain ⟨os, hos, hcs, hds⟩ := id hs
  have hTs : s.TypeIs (.ref sl) "slice" := ⟨os, hos, hcs⟩
  unfold getItem
  try with_reducible refine wpAny_holding ?_
  first | refine wpAny_bind (wpAny_pure ?_) | skip
  refine wpAny_bind (wpAny_sequenceKey ht.typeIs (by decide) ?_)
  refine wpAny_bind (wpAny_callSpecial?_slot (name := Str.ofString "__getitem__") ht.typeIs PyProof.Rows.slot_tuple_getitem
    (wpAny_call_entry PyProof.Rows.slot_tuple_getitem ht.typeIs entry_tuple_getitem ?_ (args_tuple_getitem _ _)))
  show wpAny _ _ (Builtin.Tuple.tupleItemsOf (.ref t) >>= _) _ _ s
  refine wpAny_bind (tupleItemsOf_ ht ?_)
  refine wpAny_bind (wpAny_typeOf hTs ?_)
  rw [if_pos (by decide)]
  refine wpAny_bind ?_
  unfold Builtin.Slice.sliceApplied Builtin.Slice.sliceFields
  refine wpAny_bind (wpAny_bind (wpAny_field hos hds (x := .none) rfl (wpAny_bind (wpAny_field hos hds (x := .none) rfl (wpAny_bind (wpAny_field hos hds (x := vs) rfl (wpAny_pure ?_)))))))
  refine wpAny_bind (slicePart_ ps ?_)
  show wpAny _ _ (if ((-1 : Int) == 0) = true then _ else _) _ _ s
  rw [if_neg (by decide)]
  refine wpAny_bind (slicePart_none (wpAny_bind (slicePart_none (wpAny_bind (wpAny_pure ?_)))))
  show wpAny _ _ (pure (((items.size : Nat) : Int) - 1, (-1 : Int), Builtin.Slice.slicePlaces (((items.size : Nat) : Int) - 1) (-1) (-1))) _ _ s
  rw [places_rev]
  refine wpAny_pure ?_
  show wpAny _ _ (if (((items.size : Nat) : Int) - 1 == 0 && (-1 : Int) == 1 && items.size == items.size) = true then _ else _) _ _ s
  rw [if_neg (by simp), pick_rev]
  first
    | exact wpAny_bind (m := Builtin.Tuple.tupleExact _) (wpAny_newObj_type (wpAny_pure ⟨_, rfl, wpAny_pure h⟩) htake)
    | exact wpAny_bind (m := Builtin.Tuple.tupleExact _) (wpAny_newObj_type (wpAny_bind (wpAny_pure (wpAny_pure ⟨_, rfl, wpAny_pure h⟩))) htake)
    | exact wpAny_bind (wpAny_bind (m := Builtin.Tuple.tupleExact _) (wpAny_newObj_type (wpAny_pure (wpAny_pure ⟨_, rfl, wpAny_pure h⟩)) htake))
    | exact wpAny_bind (wpAny_bind (m := Builtin.Tuple.tupleExact _) (wpAny_newObj_type (wpAny_pure ⟨_, rfl, wpAny_pure h⟩) htake))
end
end DLR
namespace DL
open PySem PySem.Spec PyProof.Rows L2
variable [Tx]
section
variable {X : Cx}
def tRevB (K : PySem.W.Frag) (te : TE) : TE := fun σ H Q => te σ H fun x H1 => (∃ a xs, x = .ref a ∧ SqL K H1 a xs ∧ ∀ p, H1 p = none → Q (.ref p) (upd H1 p (.lst xs.reverse))) ∨ ∃ a xs, x = .ref a ∧ SqT K H1 a xs ∧ NewT H1 xs.reverse Q
theorem pe_revB {e : Expr} {te : TE} {k : Nat} {p1 p2 p3 pos : Pos} (he : PE X e te) : PE X (.Subscript e (.Slice none none (some (.UnaryOp .USub (.Constant (.int 1) k p1) p2)) p3) pos) (tRevB X.K te) := by
  refine ⟨fun pins s σ H Q I h => ?_⟩
  refine Subscript_ (thn (he.run pins s σ H _ I h) fun v s1 ⟨x, H1, I1, r1, q1⟩ => ?_)
  have hst : PO X (some (.UnaryOp .USub (.Constant (.int 1) k p1) p2)) (tPart (tUn (rU fun i => .int (-i)) (tC (.int 1)))) := po_some (pe_un un_neg pe_int)
  refine wpAny_Slice (thn (po_none.run pins s1 σ H1 (fun o H2 => o = none ∧ H2 = H1) I1 ⟨rfl, rfl⟩) fun vl s2 ⟨l, H2, I2, pl, el, e2⟩ => ?_)
  subst el e2
  refine thn (po_none.run pins s2 σ H2 (fun o H3 => o = none ∧ H3 = H2) I2 ⟨rfl, rfl⟩) fun vu s3 ⟨u, H3, I3, pu, eu, e3⟩ => ?_
  subst eu e3
  refine thn (hst.run pins s3 σ H3 (fun o H4 => o = some (-1) ∧ H4 = H3) I3 ⟨1, rfl, -1, rfl, rfl, rfl⟩) fun vs s4 ⟨o, H4, I4, ps, eo, e4⟩ => ?_
  subst eo e4
  have I5 : Inv X pins σ H4 { s4 with heap := s4.heap.push { cls := .type "slice", data := .fields #[vl, vu, vs] } } := I4.kept (t' := s4.toks) fun b ob q => Heap.get?_push_of_some _ q
  rcases q1 with ⟨a, xs, ex, hx, q⟩ | ⟨a, xs, ex, hx, q⟩
  · subst ex
    cases r1
    obtain ⟨its, r, ht, hz⟩ := I5.list hx
    have hlen := r.length
    show wpAny (model X.prog X.w) X.A (subscriptTail e (.Slice none none (some (.UnaryOp .USub (.Constant (.int 1) k p1) p2)) p3) (.ref a) (.ref s4.heap.objs.size)) (EP X pins σ Q) X.xe { s4 with heap := s4.heap.push { cls := .type "slice", data := .fields #[vl, vu, vs] } }
    refine tail_any (ops := [.ref a, .ref s4.heap.objs.size]) ht.isList.typeIs (PySem.slot_list_getitem.lookup) ?_ (by with_unfolding_all rfl)
    refine wpAny_getItem_list_slice ht.isList (Heap.IsSliceOf.new _ vl vu vs) pl pu ps (by decide) ?_ (by rw [List.size_toArray]; omega)
    rw [PySem.W.krv_pick]
    refine ⟨.ref _, _, I5.laid (t' := s4.toks) (o := .lst xs.reverse) (fun b ob q => Heap.get?_push_of_some _ q) (Nat.le_refl _) ?_, rfl, q _ (I5.hok.fresh (Nat.le_refl _))⟩
    exact ⟨by rw [List.length_reverse]; exact hz, _, 0, r.reverse, Heap.get?_push_size _ rfl⟩
  · subst ex
    cases r1
    obtain ⟨its, r, ht, hz⟩ := I5.tuple hx
    have hlen := r.length
    show wpAny (model X.prog X.w) X.A (subscriptTail e (.Slice none none (some (.UnaryOp .USub (.Constant (.int 1) k p1) p2)) p3) (.ref a) (.ref s4.heap.objs.size)) (EP X pins σ Q) X.xe { s4 with heap := s4.heap.push { cls := .type "slice", data := .fields #[vl, vu, vs] } }
    refine tail_any (ops := [.ref a, .ref s4.heap.objs.size]) ht.typeIs (PyProof.Rows.slot_tuple_getitem.lookup) ?_ (by with_unfolding_all rfl)
    cases pl
    cases pu
    refine DLR.getItem_tuple_rev ht (Heap.IsSliceOf.new _ _ _ vs) ps ?_ (by rw [List.size_toArray]; omega)
    exact ep_new (t := s4.toks) I5 r.reverse (by rw [List.length_reverse]; exact hz) q
end
section
variable {ρ : Root} {X : Cx} {e : Expr} {pos : Pos}
def dRevB (de : DE) : DE := fun g k => de g fun r g1 => ∃ t ds, seqOf g1 r = some (t, ds) ∧ k (.d (if t then .tuple ds.reverse else .list ds.reverse)) g1
theorem pd_revB {de : DE} {kk : Nat} {p1 p2 p3 : Pos} (he : PD ρ X e de) : PD ρ X (.Subscript e (.Slice none none (some (.UnaryOp .USub (.Constant (.int 1) kk p1) p2)) p3) pos) (dRevB de) :=
  pe_imp (pe_revB he) fun s H Q ⟨F, g, tm, k, B, al, S, hk, q⟩ => ⟨F, g, tm, _, B, al, S, hk, fun v H1 r g1 B1 al1 ⟨t, ds, e, hk1⟩ S1 => by
    obtain ⟨a, xs, rfl, h1, h2⟩ := S1.seq (S1.top rfl) e
    have S2 := S1.temps (tm' := tm) fun p hp => List.mem_cons_of_mem _ hp
    cases t with
    | false => exact .inl ⟨a, xs, rfl, h1, fun p hp => new_l S2 hp (dqall_rev h2) hk1 fun v H' r g' B' al' hr S' rv => q v H' r g' B' al' hr (S'.push rv)⟩
    | true => exact .inr ⟨a, xs, rfl, h1, fun p ob hn hp => new_t S2 hp (dqall_rev h2) hk1 (fun v H' r g' B' al' hr S' rv => q v H' r g' B' al' hr (S'.push rv)) hn⟩⟩
end
end DL
set_option Elab.async false
set_option linter.all false
set_option maxRecDepth 100000
set_option maxHeartbeats 4000000
set_option autoImplicit false
namespace DL
open PySem PySem.Spec PyProof.Rows L2
variable [Tx]
/-- the pairs (0, x), (1, y), .. -/
def enumD (ds : List PyData) : List PyData := ds.mapIdx fun i x => .tuple [.int (i : Nat), x]
end DL
set_option Elab.async false
set_option linter.all false
set_option maxRecDepth 100000
set_option maxHeartbeats 4000000
set_option autoImplicit false
namespace DL
open PySem PySem.Spec PyProof.Rows L2
variable [Tx]
inductive Out (α : Type) where
  | ok (a : α) (g : G)
  | ex (n : Xn) (g : G)
  | no
inductive Fl where
  | nx
  | rt (r : R)
  | bk
  | ct
abbrev FE := G → Out R
abbrev FT := G → Out Bool
abbrev FAr := G → Out (List R)
abbrev FI := G → Out (List PyData)
abbrev FO := G → Out (Option Int)
abbrev FS := G → Out Fl
abbrev FG := R → G → Out Unit
abbrev FGs := List R → G → Out Unit
abbrev DX := Xn → G → Prop
def Out.go {α : Type} (dx : DX) (k : α → G → Prop) : Out α → Prop
  | .ok a g => k a g
  | .ex n g => dx n g
  | .no => False
def Out.bind {α β : Type} (o : Out α) (f : α → G → Out β) : Out β := match o with
  | .ok a g => f a g
  | .ex n g => .ex n g
  | .no => .no
@[simp] theorem bind_ok {α β : Type} (a : α) (g : G) (f : α → G → Out β) : (Out.ok a g).bind f = f a g := id rfl
@[simp] theorem bind_ex {α β : Type} (n : Xn) (g : G) (f : α → G → Out β) : (Out.ex n g : Out α).bind f = .ex n g := id rfl
@[simp] theorem bind_no {α β : Type} (f : α → G → Out β) : (Out.no : Out α).bind f = .no := id rfl
theorem go_bind {α β : Type} {dx : DX} {k : β → G → Prop} {o : Out α} {f : α → G → Out β} : (o.bind f).go dx k ↔ o.go dx fun a g => (f a g).go dx k := by
  cases o <;> exact Iff.rfl
theorem go_mono {α : Type} {dx : DX} {k k' : α → G → Prop} {o : Out α} (h : o.go dx k) (i : ∀ a g, k a g → k' a g) : o.go dx k' := by
  cases o with
  | ok a g => exact i a g h
  | ex n g => exact h
  | no => exact h
def ofO {α : Type} (o : Option α) (g : G) : Out α := match o with
  | some a => .ok a g
  | none => .no
@[simp] theorem ofO_some {α : Type} (a : α) (g : G) : ofO (some a) g = .ok a g := id rfl
theorem go_ofO {α : Type} {dx : DX} {k : α → G → Prop} {o : Option α} {g : G} (h : (ofO o g).go dx k) : ∃ a, o = some a ∧ k a g := by
  cases o with
  | none => exact h.elim
  | some a => exact ⟨a, rfl, h⟩
/-- what a function says, told over data -/
def rd {α : Type} (dx : DX) (f : G → Out α) : G → (α → G → Prop) → Prop := fun g k => (f g).go dx k
def flK (E : DEnds) : Fl → G → Prop
  | .nx => E.nx
  | .rt r => E.rt r
  | .bk => E.bk
  | .ct => E.ct
def rS (dx : DX) (f : FS) : DS := fun E g => (f g).go dx (flK E)
def rG (dx : DX) (f : FG) : DG := fun r g k => (f r g).go dx fun _ => k
def rGs (dx : DX) (f : FGs) : DGs := fun r g k => (f r g).go dx fun _ => k
section
variable {ρ : Root} {X : Cx} {e : Expr} {es : List Expr} {pos : Pos}
theorem pd_mono {d d' : DE} (h : PD ρ X e d) (i : ∀ g k, d' g k → d g k) : PD ρ X e d' := pe_imp h fun s H Q ⟨F, g, tm, k, B, al, S, hk, q⟩ => ⟨F, g, tm, k, B, al, S, i g k hk, q⟩
theorem pdt_mono {d d' : DT} (h : PDT ρ X e d) (i : ∀ g k, d' g k → d g k) : PDT ρ X e d' := pt_imp h fun s H Q ⟨F, g, tm, k, B, al, S, hk, q⟩ => ⟨F, g, tm, k, B, al, S, i g k hk, q⟩
theorem pdw_mono {d d' : DT} (h : PDW ρ X e d) (i : ∀ g k, d' g k → d g k) : PDW ρ X e d' := pw_imp h fun s H Q ⟨F, g, tm, k, B, al, S, hk, q⟩ => ⟨F, g, tm, k, B, al, S, i g k hk, q⟩
theorem pdts_mono {d d' : DT} (h : PDTs ρ X es d) (i : ∀ g k, d' g k → d g k) : PDTs ρ X es d' := pts_imp h fun s H Q ⟨F, g, tm, k, B, al, S, hk, q⟩ => ⟨F, g, tm, k, B, al, S, i g k hk, q⟩
theorem pda_mono {d d' : DA} (h : PDA ρ X es d) (i : ∀ g k, d' g k → d g k) : PDA ρ X es d' := pa_imp h fun s H Q ⟨F, g, tm, k, B, al, S, hk, q⟩ => ⟨F, g, tm, k, B, al, S, i g k hk, q⟩
theorem pdo_mono {o : Option Expr} {d d' : DO} (h : PDO ρ X o d) (i : ∀ g k, d' g k → d g k) : PDO ρ X o d' := po_imp h fun s H Q ⟨F, g, tm, k, B, al, S, hk, q⟩ => ⟨F, g, tm, k, B, al, S, i g k hk, q⟩
theorem pdi_mono {tg : Expr} {d d' : DI} (h : PDI ρ X tg e d) (i : ∀ g k, d' g k → d g k) : PDI ρ X tg e d' := pi_imp h fun s H Q ⟨F, g, tm, k, B, al, S, hk, q⟩ => ⟨F, g, tm, k, B, al, S, i g k hk, q⟩
theorem pds_mono {st : Stmt} {d d' : DS} (h : PDS ρ X st d) (i : ∀ E g, d' E g → d E g) : PDS ρ X st d' := ps_imp h fun D s H ⟨F, g, tm, E, B, al, S, hk, q⟩ => ⟨F, g, tm, E, B, al, S, i E g hk, q⟩
theorem pdss_mono {st : List Stmt} {d d' : DS} (h : PDSs ρ X st d) (i : ∀ E g, d' E g → d E g) : PDSs ρ X st d' := pss_imp h fun D s H ⟨F, g, tm, E, B, al, S, hk, q⟩ => ⟨F, g, tm, E, B, al, S, i E g hk, q⟩
theorem pdg_mono {ws : List Nat} {d d' : DG} (h : PDG ρ X ws e d) (i : ∀ r g k, d' r g k → d r g k) : PDG ρ X ws e d' := pg_imp h fun v s H Q ⟨F, g, tm, r, k, B, al, S, hv, hk, q⟩ => ⟨F, g, tm, r, k, B, al, S, hv, i r g k hk, q⟩
theorem pdgs_mono {ws : List Nat} {d d' : DGs} (h : PDGs ρ X ws es d) (i : ∀ r g k, d' r g k → d r g k) : PDGs ρ X ws es d' := pgs_imp h fun v s H Q ⟨F, g, tm, r, k, B, al, S, hv, hk, q⟩ => ⟨F, g, tm, r, k, B, al, S, hv, i r g k hk, q⟩
end
def asInts : List PyData → Option (List Int)
  | [] => some []
  | .int i :: r => (asInts r).map (i :: ·)
  | _ => none
@[simp] theorem asInts_map (ns : List Int) : asInts (ns.map .int) = some ns := by
  induction ns with
  | nil => rfl
  | cons n ns ih => simp only [List.map_cons, asInts, ih, Option.map_some]
theorem asInts_eq : ∀ {ds : List PyData} {ns : List Int}, asInts ds = some ns → ds = ns.map .int
  | [], ns, h => by cases h; rfl
  | .int i :: r, ns, h => by
    simp only [asInts] at h
    cases hr : asInts r with
    | none => rw [hr] at h; cases h
    | some ms => rw [hr] at h; cases h; rw [asInts_eq hr]; rfl
  | .none :: _, _, h => by cases h
  | .bool _ :: _, _, h => by cases h
  | .str _ :: _, _, h => by cases h
  | .list _ :: _, _, h => by cases h
  | .tuple _ :: _, _, h => by cases h
  | .dict _ :: _, _, h => by cases h
def asBools : List PyData → Option (List Bool)
  | [] => some []
  | .bool i :: r => (asBools r).map (i :: ·)
  | _ => none
@[simp] theorem asBools_map (ns : List Bool) : asBools (ns.map .bool) = some ns := by
  induction ns with
  | nil => rfl
  | cons n ns ih => simp only [List.map_cons, asBools, ih, Option.map_some]
theorem asBools_eq : ∀ {ds : List PyData} {ns : List Bool}, asBools ds = some ns → ds = ns.map .bool
  | [], ns, h => by cases h; rfl
  | .bool i :: r, ns, h => by
    simp only [asBools] at h
    cases hr : asBools r with
    | none => rw [hr] at h; cases h
    | some ms => rw [hr] at h; cases h; rw [asBools_eq hr]; rfl
  | .none :: _, _, h => by cases h
  | .int _ :: _, _, h => by cases h
  | .str _ :: _, _, h => by cases h
  | .list _ :: _, _, h => by cases h
  | .tuple _ :: _, _, h => by cases h
  | .dict _ :: _, _, h => by cases h
def asData : List R → Option (List PyData)
  | [] => some []
  | .d x :: r => (asData r).map (x :: ·)
  | _ => none
@[simp] theorem asData_map (ns : List PyData) : asData (ns.map .d) = some ns := by
  induction ns with
  | nil => rfl
  | cons n ns ih => simp only [List.map_cons, asData, ih, Option.map_some]
theorem asData_eq : ∀ {ds : List R} {ns : List PyData}, asData ds = some ns → ds = ns.map .d
  | [], ns, h => by cases h; rfl
  | .d i :: r, ns, h => by
    simp only [asData] at h
    cases hr : asData r with
    | none => rw [hr] at h; cases h
    | some ms => rw [hr] at h; cases h; rw [asData_eq hr]; rfl
  | .o _ :: _, _, h => by cases h
  | .s _ :: _, _, h => by cases h
  | .x _ :: _, _, h => by cases h
  | .m _ :: _, _, h => by cases h
  | .l _ :: _, _, h => by cases h
  | .t _ _ :: _, _, h => by cases h
  | .f _ _ :: _, _, h => by cases h
  | .u _ _ :: _, _, h => by cases h
abbrev Op2 := G → R → R → Option R
def onI (f : Int → Int → Option PyData) : Op2 := fun _ r1 r2 => match r1, r2 with
  | .d (.int i), .d (.int j) => (f i j).map .d
  | _, _ => none
theorem onI_eq {f : Int → Int → Option PyData} {g : G} {r1 r2 r : R} (h : onI f g r1 r2 = some r) : ∃ i j x, r1 = .d (.int i) ∧ r2 = .d (.int j) ∧ f i j = some x ∧ r = .d x := by
  unfold onI at h
  split at h
  · rename_i i j
    cases hf : f i j with
    | none => rw [hf] at h; cases h
    | some x => rw [hf] at h; cases h; exact ⟨i, j, x, rfl, rfl, hf, rfl⟩
  · cases h
abbrev opSub : Op2 := onI fun i j => some (.int (i - j))
abbrev opLt : Op2 := onI fun i j => some (.bool (decide (i < j)))
abbrev opLe : Op2 := onI fun i j => some (.bool (decide (i ≤ j)))
abbrev opGt : Op2 := onI fun i j => some (.bool (decide (j < i)))
abbrev opGe : Op2 := onI fun i j => some (.bool (decide (j ≤ i)))
abbrev opMod : Op2 := onI fun i j => if 0 < j then some (.int (i % j)) else none
abbrev opDiv : Op2 := onI fun i j => if 0 < j ∧ j.natAbs.log2 < 9000 then some (.int (i / j)) else none
abbrev opPow : Op2 := onI fun i j => if 0 ≤ j ∧ j ≤ 1000000 ∧ i.natAbs < 2 ^ 64 then some (.int (i ^ j.toNat)) else none
def mulOk (i j : Int) : Bool := decide ((-(2 ^ 64) < i ∧ i < 2 ^ 64) ∨ (-(2 ^ 64) < j ∧ j < 2 ^ 64))
theorem mulOk_r {i j : Int} (h1 : -(2 ^ 64) < j) (h2 : j < 2 ^ 64) : mulOk i j = true := decide_eq_true (.inr ⟨h1, h2⟩)
theorem mulOk_l {i j : Int} (h1 : -(2 ^ 64) < i) (h2 : i < 2 ^ 64) : mulOk i j = true := decide_eq_true (.inl ⟨h1, h2⟩)
def opMul : Op2 := fun g r1 r2 => match r1, r2 with
  | .d (.int i), .d (.int j) => if mulOk i j then some (.d (.int (i * j))) else none
  | _, _ => none
/-- two lists that are made here -/
def cat2 (g : G) (r1 r2 : R) : Option (List PyData) := match seqOf g r1, seqOf g r2 with
  | some (false, xs), some (false, ys) => if isMade r1 && isMade r2 && decide (xs.length + ys.length ≤ 100000) then some (xs ++ ys) else none
  | _, _ => none
def opAdd : Op2 := fun g r1 r2 => match r1, r2 with
  | .d (.int i), .d (.int j) => some (.d (.int (i + j)))
  | .d (.tuple xs), .d (.tuple ys) => if xs.length + ys.length ≤ 100000 then some (.d (.tuple (xs ++ ys))) else none
  | r1, r2 => (cat2 g r1 r2).map fun l => .d (.list l)
def opEq : Op2 := fun g r1 r2 => match datOf g r1, datOf g r2 with
  | some x, some y => if SeqAt.shaped x && SeqAt.shaped y then some (.d (.bool (PyData.eqv x y))) else none
  | _, _ => none
def opNe : Op2 := fun g r1 r2 => match datOf g r1, datOf g r2 with
  | some x, some y => if SeqAt.shaped x && SeqAt.shaped y then some (.d (.bool (!PyData.eqv x y))) else none
  | _, _ => none
def isNR : R → Bool
  | .d x => isN x
  | _ => false
def opIsN : Op2 := fun _ r1 r2 => match r2 with
  | .d .none => some (.d (.bool (isNR r1)))
  | _ => none
def opNotN : Op2 := fun _ r1 r2 => match r2 with
  | .d .none => some (.d (.bool (!isNR r1)))
  | _ => none
def valP {κ : Type} [DecidableEq κ] : List (κ × PyData) → κ → Option PyData
  | [], _ => none
  | (q, x) :: r, k => if q = k then some x else valP r k
def putP {κ : Type} [DecidableEq κ] (kvs : List (κ × PyData)) (k : κ) (x : PyData) : List (κ × PyData) := if kvs.any (fun p => decide (p.1 = k)) = true then kvs.map (fun p => if p.1 = k then (p.1, x) else p) else kvs ++ [(k, x)]
def keyOf : PyData → Option Key
  | .int i => some (.inl i)
  | .str s => some (.inr s)
  | _ => none
def keysOf : List PyData → Option (List Key)
  | [] => some []
  | d :: ds => match keyOf d, keysOf ds with
    | some k, some ks => some (k :: ks)
    | _, _ => none
def tkeyOf : PyData → Option (List Key)
  | .tuple ds => keysOf ds
  | _ => none
def dictC : Ct → Bool
  | .dK _ => true
  | .dF _ => true
  | _ => false
def dictAt (g : G) : R → Option Ct
  | .o j => match g.ce[j]? with
    | some ct => if dictC ct then some ct else none
    | none => none
  | .m ct => if dictC ct then some ct else none
  | _ => none
/-- what stands at a key; none: no key of this dict's kind -/
def dGet (ct : Ct) (key : PyData) : Option (Option PyData) := match ct with
  | .dK kvs => (keyOf key).map (valP kvs)
  | .dF kvs => (keyOf key).map (valP kvs)
  | _ => none
def dPut (ct : Ct) (key x : PyData) : Option Ct := match ct with
  | .dK kvs => if kvs.length < 100000 then (keyOf key).map fun k => .dK (putP kvs k x) else none
  | _ => none
def opIx : Op2 := fun g r1 r2 => match r2 with
  | .d key => match dictAt g r1 with
    | some ct => match dGet ct key with
      | some (some x) => some (.d x)
      | _ => none
    | none => match key with
      | .int i => match seqOf g r1 with
        | some (_, ds) => (atI ds i).map .d
        | none => none
      | _ => none
  | _ => none
/-- x in xs -/
def inB (g : G) (r1 r2 : R) : Option Bool := match dictAt g r2 with
  | some ct => match r1 with
    | .d key => (dGet ct key).map (·.isSome)
    | _ => none
  | none => match datOf g r2 with
    | some (.list ds) => match datOf g r1 with
      | some d => if SeqAt.shaped d && SeqAt.shaped (.list ds) then some (ds.any fun z => PyData.eqv z d) else none
      | none => none
    | _ => match r1 with
      | .d (.int i) => match seqOf g r2 with
        | some (_, ds) => (asInts ds).map fun ns => decide (i ∈ ns)
        | none => none
      | _ => none
def opIn : Op2 := fun g r1 r2 => (inB g r1 r2).map fun b => .d (.bool b)
def opNotIn : Op2 := fun g r1 r2 => (inB g r1 r2).map fun b => .d (.bool (!b))
def fVar (i : Nat) : FE := fun g => match g.sl[i]? with
  | some (some r) => .ok r g
  | _ => .no
def fC (x : PyData) : FE := fun g => .ok (.d x) g
def fOp (op : Op2) (f1 f2 : FE) : FE := fun g => (f1 g).bind fun r1 g1 => (f2 g1).bind fun r2 g2 => ofO (op g2 r1 r2) g2
def fNeg (f : FE) : FE := fun g => (f g).bind fun r g1 => match r with
  | .d (.int i) => .ok (.d (.int (-i))) g1
  | _ => .no
def fAnd (f1 f2 : FE) : FE := fun g => (f1 g).bind fun r g1 => match r with
  | .d (.bool c) => if c = true then f2 g1 else .ok (.d (.bool false)) g1
  | _ => .no
def fOr (f1 f2 : FE) : FE := fun g => (f1 g).bind fun r g1 => match r with
  | .d (.bool c) => if c = true then .ok (.d (.bool true)) g1 else f2 g1
  | _ => .no
def fNot (f : FE) : FE := fun g => (f g).bind fun r g1 => match r with
  | .d (.bool c) => .ok (.d (.bool (!c))) g1
  | _ => .no
def fTst (f : FE) : FT := fun g => (f g).bind fun r g1 => match r with
  | .d (.bool c) => .ok c g1
  | _ => .no
def fAndT (t u : FT) : FT := fun g => (t g).bind fun c g1 => if c = true then u g1 else .ok false g1
def fOrT (t u : FT) : FT := fun g => (t g).bind fun c g1 => if c = true then .ok true g1 else u g1
def fNotT (t : FT) : FT := fun g => (t g).bind fun c g1 => .ok (!c) g1
def fYes : FT := fun g => .ok true g
def fIf (t : FT) (a b : FE) : FE := fun g => (t g).bind fun c g1 => if c = true then a g1 else b g1
def fChain (o1 o2 : Op2) (fa fb fc : FE) : FE := fun g => (fa g).bind fun r1 g1 => (fb g1).bind fun r2 g2 => match o1 g2 r1 r2 with
  | some (.d (.bool c)) => if c = true then (fc g2).bind fun r4 g4 => ofO (o2 g4 r2 r4) g4 else .ok (.d (.bool false)) g2
  | _ => .no
def fNil : FAr := fun g => .ok [] g
def fCons (f : FE) (fs : FAr) : FAr := fun g => (f g).bind fun r g1 => (fs g1).bind fun rs g2 => .ok (r :: rs) g2
def fTup (fs : FAr) : FE := fun g => (fs g).bind fun rs g1 => match asData rs with
  | some ds => if ds.length ≤ 100000 then .ok (.d (.tuple ds)) g1 else .no
  | none => .no
def fLst (fs : FAr) : FE := fun g => (fs g).bind fun rs g1 => match asData rs with
  | some ds => if ds.length ≤ 100000 then .ok (.d (.list ds)) g1 else .no
  | none => .no
def newO (ct : Ct) (g : G) : Out R := .ok (.o g.ce.length) { g with ce := g.ce ++ [ct] }
def fLstO (fs : FAr) : FE := fun g => (fs g).bind fun rs g1 => match asData rs with
  | some ds => if ds.length ≤ 100000 then newO (.lst ds) g1 else .no
  | none => .no
def fDict0 : FE := fun g => newO (.dK []) g
def fDict0T : FE := fun g => newO (.dT []) g
def fNoP : FO := fun g => .ok none g
def fPart (f : FE) : FO := fun g => (f g).bind fun r g1 => match r with
  | .d (.int i) => .ok (some i) g1
  | _ => .no
def fSl (f : FE) (fl fh : FO) : FE := fun g => (f g).bind fun r g1 => (fl g1).bind fun lo g2 => (fh g2).bind fun hi g3 => match seqOf g3 r with
  | some (t, ds) => .ok (slR r t (cut ds lo hi)) g3
  | none => .no
def fRev (f : FE) : FE := fun g => (f g).bind fun r g1 => match seqOf g1 r with
  | some (t, ds) => .ok (.d (if t then .tuple ds.reverse else .list ds.reverse)) g1
  | none => .no
/-- built-ins by values -/
abbrev Cl := G → List R → Option R
def fCl (c : Cl) (fs : FAr) : FE := fun g => (fs g).bind fun rs g1 => ofO (c g1 rs) g1
def clLen : Cl := fun g rs => match rs with
  | [r] => match seqOf g r with
    | some (_, ds) => some (.d (.int ds.length))
    | none => none
  | _ => none
def clAbs : Cl := fun _ rs => match rs with
  | [.d (.int i)] => some (.d (.int (if i < 0 then -i else i)))
  | _ => none
def clMax : Cl := fun _ rs => match rs with
  | [.d (.int i), .d (.int j)] => some (.d (.int (if j > i then j else i)))
  | _ => none
def clMin : Cl := fun _ rs => match rs with
  | [.d (.int i), .d (.int j)] => some (.d (.int (if j < i then j else i)))
  | _ => none
def clInt : Cl := fun _ rs => match rs with
  | [.d (.bool b)] => some (.d (.int (if b then 1 else 0)))
  | _ => none
def clList : Cl := fun g rs => match rs with
  | [r] => match seqOf g r with
    | some (_, ds) => some (.d (.list ds))
    | none => none
  | _ => none
def clTuple : Cl := fun g rs => match rs with
  | [r] => match seqOf g r with
    | some (_, ds) => some (tupR r ds)
    | none => none
  | _ => none
def clAll : Cl := fun g rs => match rs with
  | [r] => match seqOf g r with
    | some (false, ds) => (asBools ds).map fun bs => .d (.bool (bs.all id))
    | _ => none
  | _ => none
def clAny : Cl := fun g rs => match rs with
  | [r] => match seqOf g r with
    | some (false, ds) => (asBools ds).map fun bs => .d (.bool (bs.any id))
    | _ => none
  | _ => none
def clSum : Cl := fun g rs => match rs with
  | [r] => match seqOf g r with
    | some (false, ds) => (asInts ds).map fun bs => .d (.int bs.sum)
    | _ => none
  | _ => none
def asKeys : IKs → Option (List Int)
  | [] => some []
  | (Sum.inl i, _) :: r => (asKeys r).map (i :: ·)
  | _ => none
theorem asKeys_eq : ∀ {kvs : IKs} {ns : List Int}, asKeys kvs = some ns → kvs.map (·.1) = ns.map Sum.inl
  | [], ns, h => by cases h; rfl
  | (.inl i, x) :: r, ns, h => by
    simp only [asKeys] at h
    cases hr : asKeys r with
    | none => rw [hr] at h; cases h
    | some ms => rw [hr] at h; cases h; rw [List.map_cons, asKeys_eq hr]; rfl
  | (.inr _, _) :: _, _, h => by cases h
def clSorted : Cl := fun g rs => match rs with
  | [r] => match dictAt g r with
    | some (.dK kvs) => match asKeys kvs with
      | some ks => if ks.length < 64 then some (.d (.list ((srt ks).map .int))) else none
      | none => none
    | some _ => none
    | none => match seqOf g r with
      | some (_, ds) => (asInts ds).map fun ns => .d (.list ((srt ns).map .int))
      | none => none
  | _ => none
def fListO (fs : FAr) : FE := fun g => (fs g).bind fun rs g1 => match rs with
  | [r] => match seqOf g1 r with
    | some (_, ds) => newO (.lst ds) g1
    | none => .no
  | _ => .no
def fIsi (T : String) (f : FE) : FE := fun g => (f g).bind fun r g1 => match tyOf g1 r with
  | some t => .ok (.d (.bool (isaB t T))) g1
  | none => .no
def fIsi2 (T U : String) (f : FE) : FE := fun g => (f g).bind fun r g1 => match tyOf g1 r with
  | some t => .ok (.d (.bool (isaB t T || isaB t U))) g1
  | none => .no
/-- methods of lists -/
abbrev Mt := G → R → List R → Option (R × G)
def ofM (o : Option (R × G)) : Out R := match o with
  | some (r, g) => .ok r g
  | none => .no
@[simp] theorem ofM_some (r : R) (g : G) : ofM (some (r, g)) = .ok r g := id rfl
def isLst (g : G) (r : R) : Bool := match seqOf g r with
  | some (false, _) => true
  | _ => false
def fMt (m : Mt) (f : FE) (fs : FAr) : FE := fun g => (f g).bind fun r g1 => if isLst g1 r then (fs g1).bind fun rs g2 => ofM (m g2 r rs) else .no
def putC (g : G) (j : Nat) (ct : Ct) : G := { g with ce := g.ce.set j ct }
def onL (f : List PyData → Option (R × List PyData)) (g : G) (r : R) : Option (R × G) := match r with
  | .o j => match g.ce[j]? with
    | some (.lst ds) => (f ds).map fun p => (p.1, putC g j (.lst p.2))
    | _ => none
  | _ => none
theorem onL_eq {f : List PyData → Option (R × List PyData)} {g g' : G} {r q : R} (h : onL f g r = some (q, g')) : ∃ j ds es, r = .o j ∧ g.ce[j]? = some (.lst ds) ∧ f ds = some (q, es) ∧ g' = putC g j (.lst es) := by
  unfold onL at h
  split at h
  · rename_i j
    split at h
    · rename_i ds e
      cases hf : f ds with
      | none => rw [hf] at h; cases h
      | some p => rw [hf] at h; cases h; exact ⟨j, ds, p.2, rfl, e, hf, rfl⟩
    · cases h
  · cases h
def mtAppend : Mt := fun g r rs => match rs with
  | [.d x] => onL (fun ds => if ds.length < 100000 then some (.d .none, ds ++ [x]) else none) g r
  | _ => none
def mtInsert : Mt := fun g r rs => match rs with
  | [.d (.int i), .d x] => onL (fun ds => if ds.length < 100000 ∧ 0 ≤ i ∧ i < 2 ^ 63 then some (.d .none, ds.take i.toNat ++ [x] ++ ds.drop i.toNat) else none) g r
  | _ => none
def popL (i : Int) (ds : List PyData) : Option (R × List PyData) := if -(2 ^ 63) ≤ i ∧ i < 2 ^ 63 then match seqIndex? i ds.length with
  | some n => match ds[n]? with
    | some x => some (.d x, ds.eraseIdx n)
    | none => none
  | none => none else none
def mtPop : Mt := fun g r rs => match rs with
  | [.d (.int i)] => onL (popL i) g r
  | _ => none
def mtExtend : Mt := fun g r rs => match rs with
  | [r1] => match seqOf g r1 with
    | some (false, es) => if isMade r1 then onL (fun ds => if ds.length + es.length ≤ 100000 then some (.d .none, ds ++ es) else none) g r else none
    | _ => none
  | _ => none
def mtIndex : Mt := fun g r rs => match rs with
  | [r1] => match datOf g r, datOf g r1 with
    | some (.list ds), some d => if SeqAt.shaped (.list ds) && SeqAt.shaped d then (ds.findIdx? (fun z => PyData.eqv z d)).map fun n => (.d (.int (n : Nat)), g) else none
    | _, _ => none
  | _ => none
def tN (i : Nat) : FG := fun r g => .ok () { g with sl := g.sl.set i (some r) }
def tNil : FGs := fun rs g => match rs with
  | [] => .ok () g
  | _ => .no
def tCons (t : FG) (u : FGs) : FGs := fun rs g => match rs with
  | r :: rs => (t r g).bind fun _ g1 => u rs g1
  | [] => .no
def tTup (n : Nat) (t : FGs) : FG := fun r g => match r with
  | .d (.tuple ds) => if ds.length = n then t (ds.map .d) g else .no
  | _ => .no
def tSub (fo fi : FE) : FG := fun r g => (fo g).bind fun r1 g1 => (fi g1).bind fun r2 g2 => match r, r2 with
  | .d x, .d (.int i) => match onL (fun ds => (ixN ds.length i).map fun n => (.d .none, ds.set n x)) g2 r1 with
    | some (_, g3) => .ok () g3
    | none => .no
  | _, _ => .no
def sNx : FS := fun g => .ok .nx g
def sCt : FS := fun g => .ok .ct g
def sBk : FS := fun g => .ok .bk g
def sSq (a b : FS) : FS := fun g => (a g).bind fun f g1 => match f with
  | .nx => b g1
  | f => .ok f g1
def sEx (f : FE) : FS := fun g => (f g).bind fun _ g1 => .ok .nx g1
def sRt (f : FE) : FS := fun g => (f g).bind fun r g1 => .ok (.rt r) g1
def sRtN : FS := fun g => .ok (.rt (.d .none)) g
def sIte (t : FT) (a b : FS) : FS := fun g => (t g).bind fun c g1 => if c = true then a g1 else b g1
def sSet (f : FE) (t : FG) : FS := fun g => (f g).bind fun r g1 => (t r g1).bind fun _ g2 => .ok .nx g2
def sP2 (i j : Nat) (fs : FAr) : FS := fun g => (fs g).bind fun rs g1 => match rs with
  | [r1, r2] => .ok .nx { g1 with sl := (g1.sl.set i (some r1)).set j (some r2) }
  | _ => .no
def sP3 (i j l : Nat) (fs : FAr) : FS := fun g => (fs g).bind fun rs g1 => match rs with
  | [r1, r2, r3] => .ok .nx { g1 with sl := ((g1.sl.set i (some r1)).set j (some r2)).set l (some r3) }
  | _ => .no
def sAg (i : Nat) (o : Int → Int → Option Int) (f : FE) : FS := fun g => match g.sl[i]? with
  | some (some (.d (.int n))) => (f g).bind fun r g1 => match r with
    | .d (.int m) => match o n m with
      | some q => .ok .nx { g1 with sl := g1.sl.set i (some (.d (.int q))) }
      | none => .no
    | _ => .no
  | _ => .no
def sPut (fd fi fv : FE) : FS := fun g => (fv g).bind fun rv g1 => (fd g1).bind fun rd g2 => (fi g2).bind fun ri g3 => match rv, rd, ri with
  | .d x, .o j, .d key => match g3.ce[j]? with
    | some ct => match dPut ct key x with
      | some ct' => .ok .nx (putC g3 j ct')
      | none => .no
    | none => .no
  | _, _, _ => .no
def sNo : FS := fun _ => .no
def whSt (t : FT) (u w : FS) : FS := fun g => (t g).bind fun c g1 => if c = true then (u g1).bind fun f g2 => match f with
  | .nx => w g2
  | .ct => w g2
  | .bk => .ok .nx g2
  | .rt r => .ok (.rt r) g2 else .ok .nx g1
def whGo (t : FT) (u : FS) : Nat → FS
  | 0 => fun _ => .no
  | n + 1 => whSt t u (whGo t u n)
open Classical in
noncomputable def sWh (t : FT) (u : FS) : FS := fun g => if h : ∃ n, whGo t u n g ≠ .no then whGo t u (Classical.choose h) g else .no
/-- one turn looks at the rest at one place at most -/
theorem whSt_at (t : FT) (u : FS) (g : G) : (∃ g2, ∀ w, whSt t u w g = w g2) ∨ ∃ o, ∀ w, whSt t u w g = o := by
  unfold whSt
  cases t g with
  | no => exact .inr ⟨_, fun _ => rfl⟩
  | ex n g => exact .inr ⟨_, fun _ => rfl⟩
  | ok c g1 =>
    cases c with
    | false => exact .inr ⟨_, fun _ => rfl⟩
    | true =>
      simp only [bind_ok, if_true]
      cases u g1 with
      | no => exact .inr ⟨_, fun _ => rfl⟩
      | ex n g => exact .inr ⟨_, fun _ => rfl⟩
      | ok f g2 =>
        cases f with
        | nx => exact .inl ⟨g2, fun _ => rfl⟩
        | ct => exact .inl ⟨g2, fun _ => rfl⟩
        | bk => exact .inr ⟨_, fun _ => rfl⟩
        | rt r => exact .inr ⟨_, fun _ => rfl⟩
theorem whGo_succ {t : FT} {u : FS} : ∀ {n : Nat} {g : G}, whGo t u n g ≠ .no → whGo t u (n + 1) g = whGo t u n g
  | 0, g, h => absurd rfl h
  | n + 1, g, h => by
    show whSt t u (whGo t u (n + 1)) g = whSt t u (whGo t u n) g
    have h : whSt t u (whGo t u n) g ≠ .no := h
    rcases whSt_at t u g with ⟨g2, e⟩ | ⟨o, e⟩
    · rw [e, e]
      rw [e] at h
      exact whGo_succ h
    · rw [e, e]
theorem whGo_le {t : FT} {u : FS} {n m : Nat} {g : G} (hm : n ≤ m) (h : whGo t u n g ≠ .no) : whGo t u m g = whGo t u n g := by
  induction hm with
  | refl => rfl
  | step _ ih => rw [whGo_succ (by rw [ih]; exact h), ih]
theorem sWh_of {t : FT} {u : FS} {n : Nat} {g : G} (h : whGo t u n g ≠ .no) : sWh t u g = whGo t u n g := by
  have hx : ∃ n, whGo t u n g ≠ .no := ⟨n, h⟩
  unfold sWh
  rw [dif_pos hx]
  have hc := Classical.choose_spec hx
  rcases Nat.le_total n (Classical.choose hx) with z | z
  · exact whGo_le z h
  · exact (whGo_le z hc).symm
theorem sWh_ex {t : FT} {u : FS} {g : G} (h : sWh t u g ≠ .no) : ∃ n, whGo t u n g = sWh t u g := by
  by_cases hx : ∃ n, whGo t u n g ≠ .no
  · obtain ⟨n, hn⟩ := hx
    exact ⟨n, (sWh_of hn).symm⟩
  · unfold sWh at h
    rw [dif_neg hx] at h
    exact absurd rfl h
/-- THE STEP of a while -/
theorem sWh_step (t : FT) (u : FS) (g : G) : sWh t u g = whSt t u (sWh t u) g := by
  by_cases hx : ∃ n, whGo t u n g ≠ .no
  · obtain ⟨n, hn⟩ := hx
    have hn' : whGo t u (n + 1) g ≠ .no := by rw [whGo_succ hn]; exact hn
    rw [sWh_of hn']
    show whSt t u (whGo t u n) g = _
    have hn' : whSt t u (whGo t u n) g ≠ .no := hn'
    rcases whSt_at t u g with ⟨g2, e⟩ | ⟨o, e⟩
    · rw [e, e]
      rw [e] at hn'
      exact (sWh_of hn').symm
    · rw [e, e]
  · have e : sWh t u g = .no := by unfold sWh; rw [dif_neg hx]
    rw [e]
    refine Classical.byContradiction fun z => hx ?_
    have z : whSt t u (sWh t u) g ≠ .no := fun y => z y.symm
    rcases whSt_at t u g with ⟨g2, e⟩ | ⟨o, e⟩
    · rw [e] at z
      obtain ⟨n, hn⟩ := sWh_ex z
      refine ⟨n + 1, ?_⟩
      show whSt t u (whGo t u n) g ≠ .no
      rw [e, hn]
      exact z
    · refine ⟨1, ?_⟩
      show whSt t u (whGo t u 0) g ≠ .no
      rw [e] at z ⊢
      exact z
def forGo (t : FG) (u : FS) : List PyData → FS
  | [] => fun g => .ok .nx g
  | x :: ds => fun g => (t (.d x) g).bind fun _ g1 => (u g1).bind fun f g2 => match f with
    | .nx => forGo t u ds g2
    | .ct => forGo t u ds g2
    | .bk => .ok .nx g2
    | .rt r => .ok (.rt r) g2
def sFr (i : FI) (t : FG) (u : FS) : FS := fun g => (i g).bind fun ds g1 => forGo t u ds g1
def lcGo (t : FG) (c : FT) (f : FE) (sl : List (Option R)) (ws : List Nat) : List PyData → List PyData → List Ct → Out (List PyData)
  | [], acc, ce => .ok acc ⟨sl, ce⟩
  | x :: ds, acc, ce => if acc.length < 100000 then match t (.d x) ⟨wipeG sl ws, ce⟩ with
    | .ok _ g2 => match c g2 with
      | .ok true g3 => match f g3 with
        | .ok (.d d) g4 => lcGo t c f sl ws ds (acc ++ [d]) g4.ce
        | _ => .no
      | .ok false g3 => lcGo t c f sl ws ds acc g3.ce
      | _ => .no
    | _ => .no else .no
def fLc (i : FI) (t : FG) (c : FT) (f : FE) (ws : List Nat) : FE := fun g => (i g).bind fun ds g1 => (lcGo t c f g1.sl ws ds [] g1.ce).bind fun acc g2 => .ok (.d (.list acc)) g2
def fLcO (i : FI) (t : FG) (c : FT) (f : FE) (ws : List Nat) : FE := fun g => (i g).bind fun ds g1 => (lcGo t c f g1.sl ws ds [] g1.ce).bind fun acc g2 => newO (.lst acc) g2
def iSeq (f : FE) : FI := fun g => (f g).bind fun r g1 => if noO r then match seqOf g1 r with
  | some (_, ds) => .ok ds g1
  | none => .no else .no
def rOk (i : Int) : Bool := decide (-(2 ^ 62) ≤ i ∧ i < 2 ^ 62)
def iRg1 (fs : FAr) : FI := fun g => (fs g).bind fun rs g1 => match rs with
  | [.d (.int j)] => if rOk j then .ok (rng 0 j.toNat) g1 else .no
  | _ => .no
def iRg2 (fs : FAr) : FI := fun g => (fs g).bind fun rs g1 => match rs with
  | [.d (.int i), .d (.int j)] => if rOk i && rOk j then .ok (rng i (j - i).toNat) g1 else .no
  | _ => .no
def iEn (fs : FAr) : FI := fun g => (fs g).bind fun rs g1 => match rs with
  | [r] => if noO r then match seqOf g1 r with
    | some (_, ds) => .ok (enumD ds) g1
    | none => .no else .no
  | _ => .no
def seqD : PyData → Option (List PyData)
  | .list ds => some ds
  | .tuple ds => some ds
  | _ => none
def iZ2 (fs : FAr) : FI := fun g => (fs g).bind fun rs g1 => match rs with
  | [.d x, .d y] => match seqD x, seqD y with
    | some xs, some ys => if ys.length = xs.length then .ok (zip2 xs ys) g1 else .no
    | _, _ => .no
  | _ => .no
def iZ3 (fs : FAr) : FI := fun g => (fs g).bind fun rs g1 => match rs with
  | [.d x, .d y, .d z] => match seqD x, seqD y, seqD z with
    | some xs, some ys, some zs => if ys.length = xs.length ∧ zs.length = xs.length then .ok (zip3 xs ys zs) g1 else .no
    | _, _, _ => .no
  | _ => .no
def clLz2 : Cl := fun g rs => match rs with
  | [r1, r2] => match seqOf g r1, seqOf g r2 with
    | some (_, xs), some (_, ys) => if ys.length = xs.length then some (.d (.list (zip2 xs ys))) else none
    | _, _ => none
  | _ => none
def clLz3 : Cl := fun g rs => match rs with
  | [r1, r2, r3] => match seqOf g r1, seqOf g r2, seqOf g r3 with
    | some (_, xs), some (_, ys), some (_, zs) => if ys.length = xs.length ∧ zs.length = xs.length then some (.d (.list (zip3 xs ys zs))) else none
    | _, _, _ => none
  | _ => none
inductive OutF where
  | ok (q : Res) (bx : List Ct)
  | ex (n : Xn) (bx : List Ct)
  | no
abbrev Fn := List R → List Ct → OutF
def resF (own : Bool) (g : G) : Res → R × G
  | .dat x => (.d x, g)
  | .shC ct => (.m ct, g)
  | .newC ct => if own then (.o g.ce.length, { g with ce := g.ce ++ [ct] }) else (shR ct, g)
def callF (f : Fn) (own : Bool) (rs : List R) (g : G) : Out R :=
  if (boxes rs).Nodup ∧ (∀ j ∈ boxes rs, aliveB g.ce[j]? = true) ∧ rs.all noL = true then match f (rs.map (renR (boxes rs))) ((boxes rs).map fun j => g.ce.getD j .dead) with
    | .ok q bx => .ok (resF own { g with ce := wb g.ce (boxes rs) bx } q).1 (resF own { g with ce := wb g.ce (boxes rs) bx } q).2
    | .ex n bx => .ex n { g with ce := wb g.ce (boxes rs) bx }
    | .no => .no else .no
def fCall (f : Fn) (own : Bool) (fs : FAr) : FE := fun g => (fs g).bind fun rs g1 => callF f own rs g1
def finF (m : Nat) (r : R) (g : G) : OutF := match r with
  | .d x => .ok (.dat x) (g.ce.take m)
  | .m ct => .ok (.shC ct) (g.ce.take m)
  | .o j => if m ≤ j then match g.ce[j]? with
    | some .dead => .no
    | some (.ins _ _ _) => .no
    | some .odx => .no
    | some (.lM _) => .no
    | some ct => .ok (.newC ct) (g.ce.take m)
    | none => .no else .no
  | _ => .no
/-- a def: n slots, the body -/
def mkFn (n : Nat) (f : FS) : Fn := fun rs bx => match f (g0 n rs bx) with
  | .ok .nx g => finF bx.length (.d .none) g
  | .ok (.rt r) g => finF bx.length r g
  | .ex n g => .ex n (g.ce.take bx.length)
  | _ => .no
end DL
set_option Elab.async false
set_option linter.all false
set_option maxRecDepth 100000
set_option maxHeartbeats 4000000
set_option autoImplicit false
namespace DL
open PySem PySem.Spec PyProof.Rows L2
variable [Tx]
abbrev PF (ρ : Root) (X : Cx) (dx : DX) (e : Expr) (f : FE) : Prop := PD ρ X e (rd dx f)
abbrev PFT (ρ : Root) (X : Cx) (dx : DX) (e : Expr) (f : FT) : Prop := PDT ρ X e (rd dx f)
abbrev PFW (ρ : Root) (X : Cx) (dx : DX) (e : Expr) (f : FT) : Prop := PDW ρ X e (rd dx f)
abbrev PFTs (ρ : Root) (X : Cx) (dx : DX) (e : List Expr) (f : FT) : Prop := PDTs ρ X e (rd dx f)
abbrev PFA (ρ : Root) (X : Cx) (dx : DX) (e : List Expr) (f : FAr) : Prop := PDA ρ X e (rd dx f)
abbrev PFI (ρ : Root) (X : Cx) (dx : DX) (tg e : Expr) (f : FI) : Prop := PDI ρ X tg e (rd dx f)
abbrev PFO (ρ : Root) (X : Cx) (dx : DX) (e : Option Expr) (f : FO) : Prop := PDO ρ X e (rd dx f)
abbrev PFG (ρ : Root) (X : Cx) (dx : DX) (ws : List Nat) (e : Expr) (f : FG) : Prop := PDG ρ X ws e (rG dx f)
abbrev PFGs (ρ : Root) (X : Cx) (dx : DX) (ws : List Nat) (e : List Expr) (f : FGs) : Prop := PDGs ρ X ws e (rGs dx f)
abbrev PFS (ρ : Root) (X : Cx) (dx : DX) (e : Stmt) (f : FS) : Prop := PDS ρ X e (rS dx f)
abbrev PFSs (ρ : Root) (X : Cx) (dx : DX) (e : List Stmt) (f : FS) : Prop := PDSs ρ X e (rS dx f)
section
variable {ρ : Root} {X : Cx} {dx : DX} {e a b c : Expr} {es : List Expr} {pos : Pos} {f f1 f2 f3 : FE} {fs : FAr} {t u : FT}
theorem q_var (i : Nat) {x : Str} (hN : X.N[i]? = some x := by rfl) (hv : Vis X.env.scope x := by first | exact Or.inl rfl | exact Or.inr (Or.inl rfl) | exact Or.inr (Or.inr rfl)) (hd : (x == ("__debug__" : Str)) = false := by decide)
    (hcd : (x == ("__classdict__" : Str)) = false := by decide) : PF ρ X dx (.Name x pos) (fVar i) := pd_mono (pd_var i hN hv hd hcd) fun g k h => by
  unfold rd fVar at h
  split at h
  · rename_i r hr; exact ⟨r, hr, h⟩
  · exact h.elim
theorem q_int {i : Int} {j : Nat} : PF ρ X dx (.Constant (.int i) j pos) (fC (.int i)) := pd_mono pd_int fun _ _ h => h
theorem q_bool {i : Bool} {j : Nat} : PF ρ X dx (.Constant (.bool i) j pos) (fC (.bool i)) := pd_mono pd_bool fun _ _ h => h
theorem q_none {j : Nat} : PF ρ X dx (.Constant .none j pos) (fC .none) := pd_mono pd_none fun _ _ h => h
theorem q_str {i : Str} {j : Nat} : PF ρ X dx (.Constant (.str i) j pos) (fC (.str i)) := pd_mono pd_str fun _ _ h => h
theorem OpR.or {f : Value → Value → Sem Value} {r1 r2 : R2} (h1 : OpR X f r1) (h2 : OpR X f r2) : OpR X f (fun x y H Q => r1 x y H Q ∨ r2 x y H Q) := fun pins s σ H x y v u Q I a b h => h.elim (h1 pins s σ H x y v u Q I a b) (h2 pins s σ H x y v u Q I a b)
theorem RefOp.or {K : KR} {r1 r2 : R2} {d1 d2 : D2} (h1 : RefOp K r1 d1) (h2 : RefOp K r2 d2) : RefOp K (fun x y H Q => r1 x y H Q ∨ r2 x y H Q) (fun a b g k => d1 a b g k ∨ d2 a b g k) := fun F g tm s H B al x y r1 r2 k Q S hx hy h q => h.elim (fun h => .inl (h1 F g tm s H B al x y r1 r2 k Q S hx hy h q)) (fun h => .inr (h2 F g tm s H B al x y r1 r2 k Q S hx hy h q))
/-- an operation says what the function says -/
def Says (op : Op2) (dr : D2) : Prop := ∀ r1 r2 g k r, op g r1 r2 = some r → k r g → dr r1 r2 g k
theorem rd_op {op : Op2} {dr : D2} (h : Says op dr) : ∀ g k, rd dx (fOp op f1 f2) g k → dOp dr (rd dx f1) (rd dx f2) g k := fun g k hk => by
  unfold rd fOp at hk
  refine go_mono (go_bind.mp hk) fun r1 g1 h1 => go_mono (go_bind.mp h1) fun r2 g2 h2 => ?_
  obtain ⟨r, e, hr⟩ := go_ofO h2
  exact h r1 r2 g2 k r e hr
theorem says_I {fo : Int → Int → PyData} {fi : Int → Int → Option PyData} (h : ∀ i j x, fi i j = some x → x = fo i j) : Says (onI fi) (oI0 fo) := fun r1 r2 g k r e hk => by
  obtain ⟨i, j, x, rfl, rfl, ef, rfl⟩ := onI_eq e
  rw [h i j x ef] at hk
  exact ⟨i, j, rfl, rfl, hk⟩
theorem says_IC {C : Int → Int → Prop} {fo : Int → Int → PyData} {fi : Int → Int → Option PyData} (h : ∀ i j x, fi i j = some x → x = fo i j ∧ C i j) : Says (onI fi) (oI C fo) := fun r1 r2 g k r e hk => by
  obtain ⟨i, j, x, rfl, rfl, ef, rfl⟩ := onI_eq e
  rw [(h i j x ef).1] at hk
  exact ⟨i, j, rfl, rfl, (h i j x ef).2, hk⟩
theorem says_sub : Says opSub oSub := says_I fun _ _ _ h => by cases h; rfl
theorem says_lt : Says opLt oLt := says_I fun _ _ _ h => by cases h; rfl
theorem says_le : Says opLe oLe := says_I fun _ _ _ h => by cases h; rfl
theorem says_gt : Says opGt oGt := says_I fun _ _ _ h => by cases h; rfl
theorem says_ge : Says opGe oGe := says_I fun _ _ _ h => by cases h; rfl
theorem says_mod : Says opMod oMod := says_IC fun i j x h => by
  split at h
  · rename_i hj; cases h; exact ⟨rfl, hj⟩
  · cases h
theorem says_div : Says opDiv oDiv := says_IC fun i j x h => by
  split at h
  · rename_i hj; cases h; exact ⟨rfl, hj⟩
  · cases h
theorem says_pow : Says opPow oPow := says_IC fun i j x h => by
  split at h
  · rename_i hj; cases h; exact ⟨rfl, hj⟩
  · cases h
theorem says_mul : Says opMul oMul := fun r1 r2 g k r e hk => by
  unfold opMul at e
  split at e
  · split at e
    · rename_i i j h
      cases e
      exact ⟨i, j, rfl, rfl, (by unfold mulOk at h; unfold CMul; exact of_decide_eq_true h), hk⟩
    · cases e
  · cases e
theorem cat2_eq {g : G} {r1 r2 : R} {l : List PyData} (h : cat2 g r1 r2 = some l) : ∃ xs ys, seqOf g r1 = some (false, xs) ∧ seqOf g r2 = some (false, ys) ∧ isMade r1 = true ∧ isMade r2 = true ∧ xs.length + ys.length ≤ 100000 ∧ l = xs ++ ys := by
  unfold cat2 at h
  split at h
  · split at h
    · rename_i xs ys e1 e2 hc
      cases h
      simp only [Bool.and_eq_true, decide_eq_true_eq] at hc
      exact ⟨xs, ys, e1, e2, hc.1.1, hc.1.2, hc.2, rfl⟩
    · cases h
  · cases h
theorem says_add : Says opAdd (fun a b g k => oAdd a b g k ∨ oCatT a b g k ∨ oCatL a b g k) := fun r1 r2 g k r e hk => by
  unfold opAdd at e
  split at e
  · cases e; exact .inl ⟨_, _, rfl, rfl, hk⟩
  · split at e
    · rename_i h
      cases e
      exact .inr (.inl ⟨_, _, rfl, rfl, h, hk⟩)
    · cases e
  · cases hc : cat2 g r1 r2 with
    | none => rw [hc] at e; cases e
    | some l =>
      rw [hc] at e
      cases e
      obtain ⟨xs, ys, h1, h2, h3, h4, h5, rfl⟩ := cat2_eq hc
      exact .inr (.inr ⟨xs, ys, h1, h2, h3, h4, h5, hk⟩)
theorem says_eq : Says opEq oEq := fun r1 r2 g k r e hk => by
  unfold opEq at e
  split at e
  · split at e
    · rename_i x y e1 e2 hc
      cases e
      simp only [Bool.and_eq_true] at hc
      exact ⟨x, y, e1, e2, hc.1, hc.2, hk⟩
    · cases e
  · cases e
theorem says_ne : Says opNe oNe := fun r1 r2 g k r e hk => by
  unfold opNe at e
  split at e
  · split at e
    · rename_i x y e1 e2 hc
      cases e
      simp only [Bool.and_eq_true] at hc
      exact ⟨x, y, e1, e2, hc.1, hc.2, hk⟩
    · cases e
  · cases e
theorem rv_isN {K : KR} {B : Hp} {al : List Addr} {v : V} {r : R} (h : RvOk K B al v r) : decide (v = .non) = isNR r := by
  cases r with
  | d x => exact dq_isN h
  | o j => obtain ⟨a, _, rfl⟩ := h; rfl
  | s ns => obtain ⟨a, rfl, _⟩ := h; rfl
  | x n => obtain ⟨a, _, rfl, _⟩ := h; rfl
  | m ct => obtain ⟨a, rfl, _⟩ := h; rfl
  | l js => obtain ⟨a, _, rfl, _⟩ := h; rfl
  | t _ _ => obtain ⟨a, _, rfl, _⟩ := h; rfl
  | f j ds => obtain ⟨a, _, _, rfl, _⟩ := h; rfl
  | u nd ds => obtain ⟨a, _, rfl, _⟩ := h; rfl
def oIsR : D2 := fun r1 r2 g k => r2 = .d .none ∧ k (.d (.bool (isNR r1))) g
theorem ref_isR {K : KR} : RefOp K (fun x y H Q => y = .non ∧ Q (.bl (decide (x = .non))) H) oIsR := by
  rintro F g tm s H B al x y r1 r2 k Q S hx hy ⟨rfl, hk⟩ q
  refine ⟨dq_none hy, ?_⟩
  rw [rv_isN hx]
  exact q _ H _ g B al hk S (Dq.bl _)
theorem says_isN : Says opIsN oIsR := fun r1 r2 g k r e hk => by
  unfold opIsN at e
  split at e
  · cases e; exact ⟨rfl, hk⟩
  · cases e
theorem q_add (ha : PF ρ X dx a f1) (hb : PF ρ X dx b f2) : PF ρ X dx (.BinOp a .Add b pos) (fOp opAdd f1 f2) :=
  pd_mono (pd_op (OpR.or op_add (OpR.or op_catN op_cat)) (RefOp.or (ref_I0 fun _ _ _ => .int _) (RefOp.or (by
  rintro F g tm s H B al x y r1 r2 k Q S hx hy ⟨ds, es, rfl, rfl, hz, hk⟩ q
  obtain ⟨a, xs, rfl, h1, h2⟩ := dq_tup hx
  obtain ⟨b, ys, rfl, h3, h4⟩ := dq_tup hy
  refine ⟨a, b, xs, ys, rfl, rfl, S.nt h1, S.nt h3, by rw [dqall_len h2, dqall_len h4]; exact sz_ok hz, fun e => ?_, fun _ e => ?_, fun _ _ p ob hn hp => new_t S hp (dqall_app h2 h4) hk q hn⟩
  · subst e
    cases h2
    exact q _ H _ g B al hk S hy
  · subst e
    cases h4
    rw [List.append_nil] at hk
    exact q _ H _ g B al hk S hx) (by
  rintro F g tm s H B al x y r1 r2 k Q S hx hy ⟨ds, es, e1, e2, m1, m2, hz, hk⟩ q
  obtain ⟨a, xs, rfl, h1, h2⟩ := S.seqM hx e1 m1
  obtain ⟨b, ys, rfl, h3, h4⟩ := S.seqM hy e2 m2
  exact ⟨a, b, xs, ys, rfl, rfl, h1, h3, by rw [dqall_len h2, dqall_len h4]; exact sz_ok hz, fun p hp => new_l S hp (dqall_app h2 h4) hk q⟩))) ha hb) (rd_op says_add)
theorem q_sub (ha : PF ρ X dx a f1) (hb : PF ρ X dx b f2) : PF ρ X dx (.BinOp a .Sub b pos) (fOp opSub f1 f2) := pd_mono (pd_sub ha hb) (rd_op says_sub)
theorem q_mul (ha : PF ρ X dx a f1) (hb : PF ρ X dx b f2) : PF ρ X dx (.BinOp a .Mult b pos) (fOp opMul f1 f2) := pd_mono (pd_mul ha hb) (rd_op says_mul)
theorem q_mod (ha : PF ρ X dx a f1) (hb : PF ρ X dx b f2) : PF ρ X dx (.BinOp a .Mod b pos) (fOp opMod f1 f2) := pd_mono (pd_mod ha hb) (rd_op says_mod)
theorem q_div (ha : PF ρ X dx a f1) (hb : PF ρ X dx b f2) : PF ρ X dx (.BinOp a .FloorDiv b pos) (fOp opDiv f1 f2) := pd_mono (pd_div ha hb) (rd_op says_div)
theorem q_pow (ha : PF ρ X dx a f1) (hb : PF ρ X dx b f2) : PF ρ X dx (.BinOp a .Pow b pos) (fOp opPow f1 f2) := pd_mono (pd_pow ha hb) (rd_op says_pow)
theorem q_neg (ha : PF ρ X dx a f) : PF ρ X dx (.UnaryOp .USub a pos) (fNeg f) := pd_mono (pd_neg ha) fun g k h => by
  refine go_mono (go_bind.mp h) fun r g1 h1 => ?_
  split at h1
  · exact ⟨_, rfl, h1⟩
  · exact h1.elim
theorem rd_tst : ∀ g k, rd dx (fTst f) g k → dTst (rd dx f) g k := fun g k h => by
  refine go_mono (go_bind.mp h) fun r g1 h1 => ?_
  split at h1
  · exact ⟨_, rfl, h1⟩
  · exact h1.elim
theorem rd_tstop {op : Op2} {dr : D2} (h : Says op dr) : ∀ g k, rd dx (fTst (fOp op f1 f2)) g k → dTst (dOp dr (rd dx f1) (rd dx f2)) g k := fun g k hk => rd_op h g _ (rd_tst g k hk)
def OvOk (B : Hp) (ov : Option V) : Option PyData → Prop
  | some x => ∃ v, ov = some v ∧ Dq B v x
  | none => ov = none
theorem val_ok {κ : Type} [DecidableEq κ] {B : Hp} {k : κ} : ∀ {us : List (κ × V)} {kvs : List (κ × PyData)}, Paired (fun (p : κ × V) (q : κ × PyData) => p.1 = q.1 ∧ Dq B p.2 q.2) us kvs → OvOk B (valV us k) (valP kvs k)
  | _, _, .nil => rfl
  | _, _, @Paired.cons _ _ _ p q us kvs h t => by
    have ih := val_ok (k := k) t
    obtain ⟨q1, q2⟩ := q
    by_cases e : q1 = k
    · rw [valP, if_pos e]
      exact ⟨p.2, valV_pos (h.1.trans e), h.2⟩
    · have e' : ¬ p.1 = k := fun z => e (h.1.symm.trans z)
      have n : valV (p :: us) k = valV us k := by simp [valV, List.find?_cons, e']
      rw [valP, if_neg e, n]
      exact ih
theorem any_okP {κ : Type} [DecidableEq κ] {B : Hp} {k : κ} : ∀ {us : List (κ × V)} {kvs : List (κ × PyData)}, Paired (fun (p : κ × V) (q : κ × PyData) => p.1 = q.1 ∧ Dq B p.2 q.2) us kvs → (us.any fun kv => decide (kv.1 = k)) = kvs.any fun p => decide (p.1 = k)
  | _, _, .nil => rfl
  | _, _, @Paired.cons _ _ _ p q us kvs h t => by rw [List.any_cons, List.any_cons, any_okP t, h.1]
theorem map_okP {κ : Type} [DecidableEq κ] {B : Hp} {k : κ} {v : V} {x : PyData} (hv : Dq B v x) : ∀ {us : List (κ × V)} {kvs : List (κ × PyData)}, Paired (fun (p : κ × V) (q : κ × PyData) => p.1 = q.1 ∧ Dq B p.2 q.2) us kvs → Paired (fun (p : κ × V) (q : κ × PyData) => p.1 = q.1 ∧ Dq B p.2 q.2) (us.map (fun kv => if kv.1 = k then (kv.1, v) else kv)) (kvs.map (fun p => if p.1 = k then (p.1, x) else p))
  | _, _, .nil => .nil
  | _, _, @Paired.cons _ _ _ p q us kvs h t => by
    refine .cons ?_ (map_okP hv t)
    show (if p.1 = k then (p.1, v) else p).1 = (if q.1 = k then (q.1, x) else q).1 ∧ Dq B (if p.1 = k then (p.1, v) else p).2 (if q.1 = k then (q.1, x) else q).2
    by_cases e : p.1 = k
    · rw [if_pos e, if_pos (h.1 ▸ e)]; exact ⟨h.1, hv⟩
    · rw [if_neg e, if_neg (fun z => e (h.1.trans z))]; exact h
theorem put_okP {κ : Type} [DecidableEq κ] {B : Hp} {k : κ} {v : V} {x : PyData} (hv : Dq B v x) {us : List (κ × V)} {kvs : List (κ × PyData)} (h : Paired (fun (p : κ × V) (q : κ × PyData) => p.1 = q.1 ∧ Dq B p.2 q.2) us kvs) : Paired (fun (p : κ × V) (q : κ × PyData) => p.1 = q.1 ∧ Dq B p.2 q.2) (putK us k v) (putP kvs k x) := by
  unfold putK putP
  rw [any_okP h]
  by_cases e : (kvs.any fun p => decide (p.1 = k)) = true
  · rw [if_pos e, if_pos e]; exact map_okP hv h
  · rw [if_neg e, if_neg e]; exact app_ok h (.cons ⟨rfl, hv⟩ .nil)
theorem key_ok {B : Hp} {v : V} {d : PyData} {k : Key} (h : Dq B v d) (e : keyOf d = some k) : v = kV k := by
  cases d with
  | int i => cases e; exact dq_int h
  | str i => cases e; exact dq_str h
  | _ => cases e
theorem Stt.dict {K : KR} {F : Fm} {g : G} {tm : List (V × R)} {s : L2.St} {H B : Hp} {al : List Addr} (S : Stt K F g tm s H B al) {v : V} {r : R} {ct : Ct} (hv : RvOk K B al v r) (h : dictAt g r = some ct) : ∃ a, v = .ref a ∧ dictC ct = true ∧ CtOk K B al H a ct := by
  cases r with
  | d x => cases h
  | s x => cases h
  | x n => cases h
  | l js => cases h
  | t _ _ => cases h
  | f j ds => cases h
  | u nd ds => cases h
  | o j =>
    obtain ⟨a, h1, h2⟩ := hv
    have h : (match g.ce[j]? with | some ct => if dictC ct then some ct else none | none => none) = some ct := h
    cases hc : g.ce[j]? with
    | none => rw [hc] at h; cases h
    | some c =>
      rw [hc] at h
      by_cases q : dictC c = true
      · simp only [q, if_true] at h
        cases h
        exact ⟨a, h2, q, S.ce j a _ h1 hc⟩
      · simp only [q] at h
        cases h
  | m c =>
    obtain ⟨a, h1, h2, h3⟩ := hv
    have h : (if dictC c then some c else none) = some ct := h
    by_cases q : dictC c = true
    · simp only [q, if_true] at h
      cases h
      exact ⟨a, h1, q, ct_mono0 (Same.refl _) (fun o e => S.bh _ _ e) h3⟩
    · simp only [q] at h
      cases h
theorem dget_ok {K : KR} {F : Fm} {g : G} {tm : List (V × R)} {s : L2.St} {H B : Hp} {al : List Addr} (S : Stt K F g tm s H B al) {a : Addr} {y : V} {key : PyData} {ct : Ct} {o : Option PyData} (hc : CtOk K B al H a ct) (hy : Dq B y key) (e : dGet ct key = some o) :
    ∃ ov, DGet H a y ov ∧ OvOk B ov o := by
  cases ct with
  | dead => cases e
  | lst ds => cases e
  | dK kvs =>
    obtain ⟨us, h1, h2⟩ := hc
    cases hk : keyOf key with
    | none => simp only [dGet, hk] at e; cases e
    | some k =>
      simp only [dGet, hk, Option.map_some, Option.some.injEq] at e
      refine ⟨valV us k, .inl ⟨us, k, .inl h1, key_ok hy hk, rfl⟩, ?_⟩
      rw [← e]
      exact val_ok h2
  | dN kvs => cases e
  | dL kvs => cases e
  | dF kvs =>
    obtain ⟨od, us, h1, h2⟩ := hc
    cases hk : keyOf key with
    | none => simp only [dGet, hk] at e; cases e
    | some k =>
      simp only [dGet, hk, Option.map_some, Option.some.injEq] at e
      refine ⟨valV us k, .inl ⟨us, k, .inr ⟨od, h1⟩, key_ok hy hk, rfl⟩, ?_⟩
      rw [← e]
      exact val_ok h2
  | ins _ _ _ => cases e
  | odx => cases e
  | lM _ => cases e
  | dT kvs => cases e
theorem pe_or {t1 t2 : TE} (h1 : PE X e t1) (h2 : PE X e t2) : PE X e (fun s H Q => t1 s H Q ∨ t2 s H Q) := ⟨fun pins s σ H Q I h => h.elim (h1.run pins s σ H Q I) (h2.run pins s σ H Q I)⟩
theorem pt_or {t1 t2 : TT} (h1 : PT X e t1) (h2 : PT X e t2) : PT X e (fun s H Q => t1 s H Q ∨ t2 s H Q) := ⟨fun pins s σ H Q I h => h.elim (h1.run pins s σ H Q I) (h2.run pins s σ H Q I)⟩
theorem pd_or2 {d1 d2 : DE} (h1 : PD ρ X e d1) (h2 : PD ρ X e d2) : PD ρ X e (fun g k => d1 g k ∨ d2 g k) := pe_imp (pe_or h1 h2) fun s H Q ⟨F, g, tm, k, B, al, S, hk, q⟩ => hk.elim (fun h => .inl ⟨F, g, tm, k, B, al, S, h, q⟩) (fun h => .inr ⟨F, g, tm, k, B, al, S, h, q⟩)
theorem pdt_or2 {d1 d2 : DT} (h1 : PDT ρ X e d1) (h2 : PDT ρ X e d2) : PDT ρ X e (fun g k => d1 g k ∨ d2 g k) := pt_imp (pt_or h1 h2) fun s H Q ⟨F, g, tm, k, B, al, S, hk, q⟩ => hk.elim (fun h => .inl ⟨F, g, tm, k, B, al, S, h, q⟩) (fun h => .inr ⟨F, g, tm, k, B, al, S, h, q⟩)
/-- an operation by two rules -/
theorem rd_op2 {op : Op2} {d1 d2 : D2} (h : ∀ r1 r2 g r, op g r1 r2 = some r → (∀ k : R → G → Prop, k r g → d1 r1 r2 g k) ∨ (∀ k : R → G → Prop, k r g → d2 r1 r2 g k)) : ∀ g k, rd dx (fOp op f1 f2) g k → dOp d1 (rd dx f1) (rd dx f2) g k ∨ dOp d2 (rd dx f1) (rd dx f2) g k := fun g k hk => by
  unfold rd fOp at hk
  unfold dOp rd
  cases e1 : f1 g with
  | no => rw [e1] at hk; exact hk.elim
  | ex n g => rw [e1] at hk; exact .inl hk
  | ok r1 g1 =>
    rw [e1] at hk
    simp only [bind_ok] at hk
    show ((f2 g1).go dx fun r2 g2 => d1 r1 r2 g2 k) ∨ ((f2 g1).go dx fun r2 g2 => d2 r1 r2 g2 k)
    cases e2 : f2 g1 with
    | no => rw [e2] at hk; exact hk.elim
    | ex n g => rw [e2] at hk; exact .inl hk
    | ok r2 g2 =>
      rw [e2] at hk
      simp only [bind_ok] at hk
      obtain ⟨r, e, hr⟩ := go_ofO hk
      rcases h r1 r2 g2 r e with z | z
      · exact .inl (z k hr)
      · exact .inr (z k hr)
def oIxD : D2 := fun r1 r2 g k => ∃ ct key x, dictAt g r1 = some ct ∧ r2 = .d key ∧ dGet ct key = some (some x) ∧ k (.d x) g
theorem pd_ixD (hu : X.A.units + 1 < cLine) {da db : DE} (ha : PD ρ X a da) (hb : PD ρ X b db) (hs : PlainIx b := by intro _ _; rfl) : PD ρ X (.Subscript a b pos) (dOp oIxD da db) := pe_imp (pe_dget hu ha hb hs) fun s H Q ⟨F, g, tm, k, B, al, S, hk, q⟩ =>
  ⟨F, g, tm, _, B, al, S, hk, fun x H1 r1 g1 B1 al1 hk1 S1 => ⟨F, g1, (x, r1) :: tm, _, B1, al1, S1, hk1, fun y H2 r2 g2 B2 al2 ⟨ct, key, xd, e1, e2, e3, hk2⟩ S2 => by
    subst e2
    obtain ⟨p, e0, _, hc⟩ := S2.dict (S2.tm (x, r1) (by simp)) e1
    have e0 : x = .ref p := e0
    subst e0
    obtain ⟨ov, h1, v, h2, h3⟩ := dget_ok S2 hc (S2.tm (y, R.d key) (by simp)) e3
    subst h2
    exact ⟨p, v, rfl, h1, q v H2 _ g2 B2 al2 hk2 ((S2.temps (tm' := tm) fun p hp => List.mem_cons_of_mem _ (List.mem_cons_of_mem _ hp)).push h3)⟩⟩⟩
theorem q_ix (hu : X.A.units + 1 < cLine) (ha : PF ρ X dx a f1) (hb : PF ρ X dx b f2) (hs : PlainIx b := by intro _ _; rfl) : PF ρ X dx (.Subscript a b pos) (fOp opIx f1 f2) := pd_mono (pd_or2 (pd_ix ha hb hs) (pd_ixD hu ha hb hs)) (rd_op2 fun r1 r2 g r e => by
  unfold opIx at e
  split at e
  · rename_i key
    split at e
    · rename_i ct hct
      split at e
      · rename_i x hx; cases e; exact .inr fun k hk => ⟨ct, key, x, hct, rfl, hx, hk⟩
      · cases e
    · split at e
      · rename_i i
        split at e
        · rename_i t ds hs
          cases ha : atI ds i with
          | none => rw [ha] at e; cases e
          | some x => rw [ha] at e; cases e; exact .inl fun k hk => ⟨t, ds, i, x, hs, rfl, ha, hk⟩
        · cases e
      · cases e
  · cases e)
def oInDt (neg : Bool) : D2 := fun r1 r2 g k => ∃ ct key o, dictAt g r2 = some ct ∧ r1 = .d key ∧ dGet ct key = some o ∧ k (.d (.bool (if neg then !o.isSome else o.isSome))) g
def oInL (neg : Bool) : D2 := fun r1 r2 g k => ∃ d ds, datOf g r1 = some d ∧ datOf g r2 = some (.list ds) ∧ SeqAt.shaped d = true ∧ SeqAt.shaped (.list ds) = true ∧ k (.d (.bool (if neg then !(ds.any fun z => PyData.eqv z d) else ds.any fun z => PyData.eqv z d))) g
theorem isSome_ok {B : Hp} {ov : Option V} {o : Option PyData} (h : OvOk B ov o) : ov.isSome = o.isSome := by
  cases o with
  | none => rw [show ov = none from h]; rfl
  | some x => obtain ⟨v, e, _⟩ := h; rw [e]; rfl
theorem ref_inDt {K : KR} {da db : DE} : ∀ s H Q, lift K (dOp (oInDt false) da db) s H Q → tDIn (lift K da) (lift K db) s H Q := fun s H Q ⟨F, g, tm, k, B, al, S, hk, q⟩ =>
  ⟨F, g, tm, _, B, al, S, hk, fun x H1 r1 g1 B1 al1 hk1 S1 => ⟨F, g1, (x, r1) :: tm, _, B1, al1, S1, hk1, fun y H2 r2 g2 B2 al2 ⟨ct, key, o, e1, e2, e3, hk2⟩ S2 => by
    subst e2
    obtain ⟨p, e0, _, hc⟩ := S2.dict (S2.tm (y, r2) (by simp)) e1
    have e0 : y = .ref p := e0
    subst e0
    obtain ⟨ov, h1, h2⟩ := dget_ok S2 hc (S2.tm (x, R.d key) (by simp)) e3
    refine ⟨p, ov, rfl, h1, ?_⟩
    rw [isSome_ok h2]
    exact q _ H2 _ g2 B2 al2 hk2 ((S2.temps (tm' := tm) fun p hp => List.mem_cons_of_mem _ (List.mem_cons_of_mem _ hp)).push (.bl _))⟩⟩
theorem ref_notInDt {K : KR} {da db : DE} : ∀ s H Q, lift K (dOp (oInDt true) da db) s H Q → tDNotIn (lift K da) (lift K db) s H Q := fun s H Q ⟨F, g, tm, k, B, al, S, hk, q⟩ =>
  ⟨F, g, tm, _, B, al, S, hk, fun x H1 r1 g1 B1 al1 hk1 S1 => ⟨F, g1, (x, r1) :: tm, _, B1, al1, S1, hk1, fun y H2 r2 g2 B2 al2 ⟨ct, key, o, e1, e2, e3, hk2⟩ S2 => by
    subst e2
    obtain ⟨p, e0, _, hc⟩ := S2.dict (S2.tm (y, r2) (by simp)) e1
    have e0 : y = .ref p := e0
    subst e0
    obtain ⟨ov, h1, h2⟩ := dget_ok S2 hc (S2.tm (x, R.d key) (by simp)) e3
    refine ⟨p, ov, rfl, h1, ?_⟩
    rw [isSome_ok h2]
    exact q _ H2 _ g2 B2 al2 hk2 ((S2.temps (tm' := tm) fun p hp => List.mem_cons_of_mem _ (List.mem_cons_of_mem _ hp)).push (.bl _))⟩⟩
theorem ref_inL {K : KR} : RefOp K (rInD K.fr) (oInL false) := by
  rintro F g tm s H B al x y r1 r2 k Q S hx hy ⟨d, ds, e1, e2, s1, s2, hk⟩ q
  exact ⟨d, ds, S.dat hx e1, S.dat hy e2, s1, s2, q _ H _ g B al hk S (Dq.bl _)⟩
theorem ref_notInL {K : KR} : RefOp K (rNotInD K.fr) (oInL true) := by
  rintro F g tm s H B al x y r1 r2 k Q S hx hy ⟨d, ds, e1, e2, s1, s2, hk⟩ q
  exact ⟨d, ds, S.dat hx e1, S.dat hy e2, s1, s2, q _ H _ g B al hk S (Dq.bl _)⟩
theorem inB_says {g : G} {r1 r2 : R} {b : Bool} (e : inB g r1 r2 = some b) : (∃ ct key o, dictAt g r2 = some ct ∧ r1 = .d key ∧ dGet ct key = some o ∧ b = o.isSome) ∨
    (∃ d ds, datOf g r1 = some d ∧ datOf g r2 = some (.list ds) ∧ SeqAt.shaped d = true ∧ SeqAt.shaped (.list ds) = true ∧ b = ds.any fun z => PyData.eqv z d) ∨ ∃ (i : Int) (t : Bool) (ns : List Int), r1 = .d (.int i) ∧ seqOf g r2 = some (t, ns.map .int) ∧ b = decide (i ∈ ns) := by
  unfold inB at e
  split at e
  · rename_i ct hct
    split at e
    · rename_i key
      cases hd : dGet ct key with
      | none => rw [hd] at e; cases e
      | some o => rw [hd] at e; cases e; exact .inl ⟨ct, key, o, hct, rfl, hd, rfl⟩
    · cases e
  · split at e
    · rename_i ds hds
      split at e
      · rename_i d hd
        split at e
        · rename_i hc
          simp only [Bool.and_eq_true] at hc
          cases e
          exact .inr (.inl ⟨d, ds, hd, hds, hc.1, hc.2, rfl⟩)
        · cases e
      · cases e
    · split at e
      · rename_i i
        split at e
        · rename_i t ds hs
          cases ha : asInts ds with
          | none => rw [ha] at e; cases e
          | some ns => rw [ha] at e; cases e; rw [asInts_eq ha] at hs; exact .inr (.inr ⟨i, t, ns, rfl, hs, rfl⟩)
        · cases e
      · cases e
theorem in_says (neg : Bool) (op : Op2) (hop : ∀ g r1 r2, op g r1 r2 = (inB g r1 r2).map fun b => .d (.bool (if neg then !b else b))) (r1 r2 : R) (g : G) (r : R) (e : op g r1 r2 = some r) :
    (∀ k : R → G → Prop, k r g → (fun a b g k => oInL neg a b g k ∨ (if neg then oNotIn else oIn) a b g k) r1 r2 g k) ∨ (∀ k : R → G → Prop, k r g → oInDt neg r1 r2 g k) := by
  rw [hop] at e
  cases hi : inB g r1 r2 with
  | none => rw [hi] at e; cases e
  | some b =>
    rw [hi] at e
    cases e
    rcases inB_says hi with ⟨ct, key, o, h1, h2, h3, rfl⟩ | ⟨d, ds, h1, h2, h3, h4, rfl⟩ | ⟨i, t, ns, h1, h2, rfl⟩
    · exact .inr fun k hk => ⟨ct, key, o, h1, h2, h3, hk⟩
    · exact .inl fun k hk => .inl ⟨d, ds, h1, h2, h3, h4, hk⟩
    · refine .inl fun k hk => .inr ?_
      cases neg with
      | true => exact ⟨i, t, ns, h1, h2, hk⟩
      | false => exact ⟨i, t, ns, h1, h2, hk⟩
/-- a comparison by its value, as a test -/
theorem tst_of {op : CmpOp} {de : DE} {t : TE} (h : PC X op a b t) (h1 : behindInMarks op b = false) (i : ∀ s H Q, lift ⟨X.K, ρ⟩ de s H Q → t s H Q) : PDT ρ X (.Compare a [op] [b] pos) (dTst de) := pt_imp (pt_cmp h h1) fun s H Q hq => i s H _ (by
  obtain ⟨F, g, tm, k, B, al, S, hk, q⟩ := hq
  exact ⟨F, g, tm, _, B, al, S, hk, fun v H1 r g1 B1 al1 ⟨c, e, hk1⟩ S1 => by
    subst e
    cases dq_bool (S1.top rfl)
    exact ⟨c, rfl, q c H1 g1 B1 al1 hk1 (S1.temps fun p hp => List.mem_cons_of_mem _ hp)⟩⟩)
theorem rd_top2 {op : Op2} {d1 d2 : D2} (h : ∀ r1 r2 g r, op g r1 r2 = some r → (∀ k : R → G → Prop, k r g → d1 r1 r2 g k) ∨ (∀ k : R → G → Prop, k r g → d2 r1 r2 g k)) : ∀ g k, rd dx (fTst (fOp op f1 f2)) g k → dTst (dOp d1 (rd dx f1) (rd dx f2)) g k ∨ dTst (dOp d2 (rd dx f1) (rd dx f2)) g k := fun g k hk => rd_op2 h g _ (rd_tst g k hk)
theorem q_lt (ha : PF ρ X dx a f1) (hb : PF ρ X dx b f2) : PF ρ X dx (.Compare a [.Lt] [b] pos) (fOp opLt f1 f2) := pd_mono (pd_lt ha hb) (rd_op says_lt)
theorem q_ge (ha : PF ρ X dx a f1) (hb : PF ρ X dx b f2) : PF ρ X dx (.Compare a [.GtE] [b] pos) (fOp opGe f1 f2) := pd_mono (pd_ge ha hb) (rd_op says_ge)
theorem q_eq (hu : X.A.units + 64 < cLine) (ha : PF ρ X dx a f1) (hb : PF ρ X dx b f2) : PF ρ X dx (.Compare a [.Eq] [b] pos) (fOp opEq f1 f2) := pd_mono (pd_eq hu ha hb) (rd_op says_eq)
theorem q_isN (ha : PF ρ X dx a f1) (hb : PF ρ X dx b f2) : PF ρ X dx (.Compare a [.Is] [b] pos) (fOp opIsN f1 f2) := pd_mono (pd_cmp op_isN (nomark _) ref_isR ha hb) (rd_op says_isN)
theorem qt_lt (ha : PF ρ X dx a f1) (hb : PF ρ X dx b f2) : PFT ρ X dx (.Compare a [.Lt] [b] pos) (fTst (fOp opLt f1 f2)) := pdt_mono (pdt_lt ha hb) (rd_tstop says_lt)
theorem qt_gt (ha : PF ρ X dx a f1) (hb : PF ρ X dx b f2) : PFT ρ X dx (.Compare a [.Gt] [b] pos) (fTst (fOp opGt f1 f2)) := pdt_mono (pdt_gt ha hb) (rd_tstop says_gt)
theorem qt_eq (hu : X.A.units + 64 < cLine) (ha : PF ρ X dx a f1) (hb : PF ρ X dx b f2) : PFT ρ X dx (.Compare a [.Eq] [b] pos) (fTst (fOp opEq f1 f2)) := pdt_mono (pdt_eq hu ha hb) (rd_tstop says_eq)
theorem qt_ne (hu : X.A.units + 64 < cLine) (ha : PF ρ X dx a f1) (hb : PF ρ X dx b f2) : PFT ρ X dx (.Compare a [.NotEq] [b] pos) (fTst (fOp opNe f1 f2)) := pdt_mono (pdt_ne hu ha hb) (rd_tstop says_ne)
theorem qt_isN (ha : PF ρ X dx a f1) (hb : PF ρ X dx b f2) : PFT ρ X dx (.Compare a [.Is] [b] pos) (fTst (fOp opIsN f1 f2)) := pdt_mono (pdt_cmp op_isN (nomark _) ref_isR ha hb) (rd_tstop says_isN)
theorem qt_in (hu : X.A.units + 65 < cLine) (ha : PF ρ X dx a f1) (hb : PF ρ X dx b f2) (hm : behindInMarks .In b = false := by rfl) : PFT ρ X dx (.Compare a [.In] [b] pos) (fTst (fOp opIn f1 f2)) := pdt_mono (pdt_or2 (pdt_cmp (OpR.or (op_inD hu) op_in_seq) hm (RefOp.or ref_inL ref_in) ha hb) (tst_of (pc_din (by omega) ha hb) hm ref_inDt)) (rd_top2 (in_says false opIn fun _ _ _ => rfl))
theorem qt_notIn (hu : X.A.units + 65 < cLine) (ha : PF ρ X dx a f1) (hb : PF ρ X dx b f2) (hm : behindInMarks .NotIn b = false := by rfl) : PFT ρ X dx (.Compare a [.NotIn] [b] pos) (fTst (fOp opNotIn f1 f2)) := pdt_mono (pdt_or2 (pdt_cmp (OpR.or (op_notInD hu) op_notIn_seq) hm (RefOp.or ref_notInL ref_notIn) ha hb) (tst_of (pc_dnotin (by omega) ha hb) hm ref_notInDt)) (rd_top2 (in_says true opNotIn fun _ _ _ => rfl))
theorem qt_val (h : PF ρ X dx e f) (he : ∀ whole, isTrue e X.env whole = (do let v ← whole; standAt e.pos; holding [v] (truthy v)) := by intro _; rfl) : PFT ρ X dx e (fTst f) := pdt_mono (pdt_val h he) rd_tst
theorem rd_chain {o1 o2 : Op2} {d1 d2 : D2} (h1 : Says o1 d1) (h2 : Says o2 d2) : ∀ g k, rd dx (fChain o1 o2 f1 f2 f3) g k → dChain d1 d2 (rd dx f1) (rd dx f2) (rd dx f3) g k := fun g k hk => by
  refine go_mono (go_bind.mp hk) fun r1 g1 a1 => go_mono (go_bind.mp a1) fun r2 g2 a2 => ?_
  split at a2
  · rename_i c ec
    refine h1 r1 r2 g2 _ _ ec ⟨c, rfl, ?_⟩
    cases c with
    | true =>
      rw [if_pos rfl]
      rw [if_pos rfl] at a2
      refine go_mono (go_bind.mp a2) fun r4 g4 a4 => ?_
      obtain ⟨r, e, hr⟩ := go_ofO a4
      exact h2 r2 r4 g4 k r e hr
    | false =>
      rw [if_neg Bool.false_ne_true]
      rw [if_neg Bool.false_ne_true] at a2
      exact a2
  · exact a2.elim
theorem rd_tchain {o1 o2 : Op2} {d1 d2 : D2} (h1 : Says o1 d1) (h2 : Says o2 d2) : ∀ g k, rd dx (fTst (fChain o1 o2 f1 f2 f3)) g k → dTst (dChain d1 d2 (rd dx f1) (rd dx f2) (rd dx f3)) g k := fun g k hk => rd_chain h1 h2 g _ (rd_tst g k hk)
theorem qt_lelt (ha : PF ρ X dx a f1) (hb : PF ρ X dx b f2) (hc : PF ρ X dx c f3) (hm : lastMarks [.LtE, .Lt] [b, c] = false := by with_unfolding_all rfl) : PFT ρ X dx (.Compare a [.LtE, .Lt] [b, c] pos) (fTst (fChain opLe opLt f1 f2 f3)) := pdt_mono (pdt_lelt ha hb hc hm) (rd_tchain says_le says_lt)
theorem q_one {op} (h : PF ρ X dx a f) : PF ρ X dx (.BoolOp op [a] pos) f := pd_one h
theorem q_and {rest : List Expr} (ha : PF ρ X dx a f1) (hb : PF ρ X dx (.BoolOp .And (b :: rest) pos) f2) : PF ρ X dx (.BoolOp .And (a :: b :: rest) pos) (fAnd f1 f2) := pd_mono (pd_and ha hb) fun g k h => by
  refine go_mono (go_bind.mp h) fun r g1 h1 => ?_
  split at h1
  · rename_i c
    refine ⟨c, rfl, ?_⟩
    cases c <;> exact h1
  · exact h1.elim
theorem q_not (ha : PF ρ X dx a f) : PF ρ X dx (.UnaryOp .Not a pos) (fNot f) := pd_mono (pd_not ha) fun g k h => by
  refine go_mono (go_bind.mp h) fun r g1 h1 => ?_
  split at h1
  · exact ⟨_, rfl, h1⟩
  · exact h1.elim
theorem qw_and1 (h : PFT ρ X dx a t) : PFW ρ X dx (.BoolOp .And [a] pos) t := pdw_and1 h
theorem qw_or1 (h : PFT ρ X dx a t) : PFW ρ X dx (.BoolOp .Or [a] pos) t := pdw_or1 h
theorem qw_and {rest : List Expr} (ha : PFT ρ X dx a t) (hb : PFW ρ X dx (.BoolOp .And (b :: rest) pos) u) : PFW ρ X dx (.BoolOp .And (a :: b :: rest) pos) (fAndT t u) := pdw_mono (pdw_and ha hb) fun g k h => by
  refine go_mono (go_bind.mp h) fun c g1 h1 => ?_
  cases c <;> exact h1
theorem qw_or {rest : List Expr} (ha : PFT ρ X dx a t) (hb : PFW ρ X dx (.BoolOp .Or (b :: rest) pos) u) : PFW ρ X dx (.BoolOp .Or (a :: b :: rest) pos) (fOrT t u) := pdw_mono (pdw_or ha hb) fun g k h => by
  refine go_mono (go_bind.mp h) fun c g1 h1 => ?_
  cases c <;> exact h1
theorem qt_w (h : PFW ρ X dx e t) : PFT ρ X dx e t := pdt_w h
theorem qt_not (h : PFT ρ X dx a t) : PFT ρ X dx (.UnaryOp .Not a pos) (fNotT t) := pdt_mono (pdt_not h) fun g k h => go_mono (go_bind.mp h) fun c g1 h1 => h1
theorem q_if (hc : PFT ρ X dx c t) (ha : PF ρ X dx a f1) (hb : PF ρ X dx b f2) : PF ρ X dx (.IfExp c a b pos) (fIf t f1 f2) := pd_mono (pd_if hc ha hb) fun g k h => by
  refine go_mono (go_bind.mp h) fun c g1 h1 => ?_
  cases c <;> exact h1
theorem qts_nil : PFTs ρ X dx [] fYes := pdts_mono pdts_nil fun _ _ h => h
theorem qts_one (h : PFT ρ X dx c t) : PFTs ρ X dx [c] t := pdts_one h
theorem qa_nil : PFA ρ X dx [] fNil := pda_mono pda_nil fun _ _ h => h
theorem qa_cons (ha : PF ρ X dx e f) (hr : PFA ρ X dx es fs) (hs : starEach (e :: es) X.env = (false, eval e X.env) :: starEach es X.env := by rfl) : PFA ρ X dx (e :: es) (fCons f fs) := pda_mono (pda_cons ha hr hs) fun g k h =>
  go_mono (go_bind.mp h) fun r g1 h1 => go_mono (go_bind.mp h1) fun rs g2 h2 => h2
theorem q_tup {x1 : Nat} (h : PFA ρ X dx es fs) : PF ρ X dx (.Tuple es x1 pos) (fTup fs) := pd_mono (pd_tup h) fun g k h => go_mono (go_bind.mp h) fun rs g1 h1 => by
  split at h1
  · rename_i ds e
    split at h1
    · rename_i hl; exact ⟨ds, asData_eq e, hl, h1⟩
    · exact h1.elim
  · exact h1.elim
theorem q_lst (h : PFA ρ X dx es fs) : PF ρ X dx (.List es pos) (fLst fs) := pd_mono (pd_lst h) fun g k h => go_mono (go_bind.mp h) fun rs g1 h1 => by
  split at h1
  · rename_i ds e
    split at h1
    · rename_i hl; exact ⟨ds, asData_eq e, hl, h1⟩
    · exact h1.elim
  · exact h1.elim
theorem q_lstO (h : PFA ρ X dx es fs) : PF ρ X dx (.List es pos) (fLstO fs) := pd_mono (pd_lstO h) fun g k h => go_mono (go_bind.mp h) fun rs g1 h1 => by
  split at h1
  · rename_i ds e
    split at h1
    · rename_i hl; exact ⟨ds, asData_eq e, hl, h1⟩
    · exact h1.elim
  · exact h1.elim
theorem q_dict0 : PF ρ X dx (.Dict [] [] pos) fDict0 := pd_mono pd_dict0 fun g k h => h
theorem qo_none : PFO ρ X dx none fNoP := pdo_mono pdo_none fun _ _ h => h
theorem qo_some (h : PF ρ X dx e f) : PFO ρ X dx (some e) (fPart f) := pdo_mono (pdo_some h) fun g k h => go_mono (go_bind.mp h) fun r g1 h1 => by
  split at h1
  · exact ⟨_, rfl, h1⟩
  · exact h1.elim
theorem q_sl {fl fh : FO} {lo hi : Option Expr} {p2 : Pos} (he : PF ρ X dx e f) (hl : PFO ρ X dx lo fl) (hh : PFO ρ X dx hi fh) : PF ρ X dx (.Subscript e (.Slice lo hi none p2) pos) (fSl f fl fh) := pd_mono (pd_sl he hl hh) fun g k h =>
  go_mono (go_bind.mp h) fun r g1 h1 => go_mono (go_bind.mp h1) fun lo g2 h2 => go_mono (go_bind.mp h2) fun hi g3 h3 => by
    split at h3
    · rename_i t ds e; exact ⟨t, ds, e, h3⟩
    · exact h3.elim
theorem q_rev {kk : Nat} {p1 p2 p3 : Pos} (he : PF ρ X dx e f) : PF ρ X dx (.Subscript e (.Slice none none (some (.UnaryOp .USub (.Constant (.int 1) kk p1) p2)) p3) pos) (fRev f) := pd_mono (pd_revB he) fun g k h => go_mono (go_bind.mp h) fun r g1 h1 => by
    split at h1
    · rename_i t ds e; exact ⟨t, ds, e, h1⟩
    · exact h1.elim
def SaysC (c : Cl) (dr : DCl) : Prop := ∀ rs g k r, c g rs = some r → k r g → dr rs g k
theorem rd_cl {c : Cl} {dr : DCl} (h : SaysC c dr) : ∀ g k, rd dx (fCl c fs) g k → dCall dr (rd dx fs) g k := fun g k hk => go_mono (go_bind.mp hk) fun rs g1 h1 => by
  obtain ⟨r, e, hr⟩ := go_ofO h1
  exact h rs g1 k r e hr
theorem sc_len : SaysC clLen cLen := fun rs g k r e hk => by
  unfold clLen at e
  split at e
  · split at e
    · rename_i t ds hs; cases e; exact ⟨_, t, ds, rfl, hs, hk⟩
    · cases e
  · cases e
theorem sc_abs : SaysC clAbs cAbs := fun rs g k r e hk => by
  unfold clAbs at e
  split at e
  · cases e; exact ⟨_, rfl, hk⟩
  · cases e
theorem sc_max : SaysC clMax cMax2 := fun rs g k r e hk => by
  unfold clMax at e
  split at e
  · cases e; exact ⟨_, _, rfl, hk⟩
  · cases e
theorem sc_min : SaysC clMin cMin2 := fun rs g k r e hk => by
  unfold clMin at e
  split at e
  · cases e; exact ⟨_, _, rfl, hk⟩
  · cases e
theorem sc_int : SaysC clInt cIntB := fun rs g k r e hk => by
  unfold clInt at e
  split at e
  · cases e; exact ⟨_, rfl, hk⟩
  · cases e
theorem sc_list : SaysC clList cList := fun rs g k r e hk => by
  unfold clList at e
  split at e
  · split at e
    · rename_i t ds hs; cases e; exact ⟨_, t, ds, rfl, hs, hk⟩
    · cases e
  · cases e
theorem sc_tuple : SaysC clTuple cTuple := fun rs g k r e hk => by
  unfold clTuple at e
  split at e
  · split at e
    · rename_i t ds hs; cases e; exact ⟨_, t, ds, rfl, hs, hk⟩
    · cases e
  · cases e
theorem sc_all : SaysC clAll cAll := fun rs g k r e hk => by
  unfold clAll at e
  split at e
  · split at e
    · rename_i ds hs
      cases ha : asBools ds with
      | none => rw [ha] at e; cases e
      | some bs => rw [ha] at e; cases e; rw [asBools_eq ha] at hs; exact ⟨_, bs, rfl, hs, hk⟩
    · cases e
  · cases e
theorem rd_cl2 {c : Cl} {d1 d2 : DCl} (h : ∀ rs g r, c g rs = some r → (∀ k : R → G → Prop, k r g → d1 rs g k) ∨ (∀ k : R → G → Prop, k r g → d2 rs g k)) : ∀ g k, rd dx (fCl c fs) g k → dCall d1 (rd dx fs) g k ∨ dCall d2 (rd dx fs) g k := fun g k hk => by
  unfold rd fCl at hk
  unfold dCall rd
  cases e1 : fs g with
  | no => rw [e1] at hk; exact hk.elim
  | ex n g => rw [e1] at hk; exact .inl hk
  | ok rs g1 =>
    rw [e1] at hk
    obtain ⟨r, e, hr⟩ := go_ofO hk
    rcases h rs g1 r e with z | z
    · exact .inl (z k hr)
    · exact .inr (z k hr)
def cSortedDt : DCl := fun rs g k => ∃ r kvs ks, rs = [r] ∧ dictAt g r = some (.dK kvs) ∧ asKeys kvs = some ks ∧ ks.length < 64 ∧ k (.d (.list ((srt ks).map .int))) g
theorem sorted_says (rs : List R) (g : G) (r : R) (e : clSorted g rs = some r) : (∀ k : R → G → Prop, k r g → cSorted rs g k) ∨ (∀ k : R → G → Prop, k r g → cSortedDt rs g k) := by
  unfold clSorted at e
  split at e
  · split at e
    · rename_i kvs hd
      split at e
      · rename_i ks ha
        split at e
        · rename_i hl; cases e; exact .inr fun k hk => ⟨_, kvs, ks, rfl, hd, ha, hl, hk⟩
        · cases e
      · cases e
    · cases e
    · split at e
      · rename_i t ds hs
        cases ha : asInts ds with
        | none => rw [ha] at e; cases e
        | some bs => rw [ha] at e; cases e; rw [asInts_eq ha] at hs; exact .inl fun k hk => ⟨_, t, bs, rfl, hs, hk⟩
      · cases e
  · cases e
theorem pd_sortedDt {p : Pos} {da : DA} (hc : X.calm = true) (hg : Gl X "sorted") (hm : X.mg "sorted" = none) (ha : PDA ρ X (e :: es) da) (he : starEach (e :: es) X.env = (false, eval e X.env) :: starEach es X.env := by rfl) (hpl : (backTo pos (starEach es X.env)).any (·.1) = false := by rfl) :
    PD ρ X (.Call (.Name "sorted" p) (e :: es) [] pos) (dCall cSortedDt da) := pd_callB (call_sortedDI hc) (by
      rintro F g tm s H B al vs rs k Q S pr ⟨r, kvs, ks, rfl, hd, hk, hl, hk2⟩ q
      obtain ⟨v, rfl, hv⟩ := pair1 pr
      obtain ⟨a, rfl, _, us, h1, h2⟩ := S.dict hv hd
      refine ⟨a, us, ks, rfl, .inl h1, (keys_ok h2).trans (asKeys_eq hk), hl, fun ys p hp hs hn => ?_⟩
      rw [srt_eq hp hs]
      exact new_l S hn (dqall_mkints _) hk2 q) hg hm boot_sorted ha (by decide) (by decide) he hpl
section
variable {p : Pos} (hc : X.calm = true)
theorem q_len (hc : X.calm = true) (hg : Gl X "len") (hm : X.mg "len" = none) (ha : PFA ρ X dx (e :: es) fs) (he : starEach (e :: es) X.env = (false, eval e X.env) :: starEach es X.env := by rfl) (hpl : (backTo pos (starEach es X.env)).any (·.1) = false := by rfl) : PF ρ X dx (.Call (.Name "len" p) (e :: es) [] pos) (fCl clLen fs) := pd_mono (pd_len hc hg hm ha he hpl) (rd_cl sc_len)
theorem q_abs (hc : X.calm = true) (hg : Gl X "abs") (hm : X.mg "abs" = none) (ha : PFA ρ X dx (e :: es) fs) (he : starEach (e :: es) X.env = (false, eval e X.env) :: starEach es X.env := by rfl) (hpl : (backTo pos (starEach es X.env)).any (·.1) = false := by rfl) : PF ρ X dx (.Call (.Name "abs" p) (e :: es) [] pos) (fCl clAbs fs) := pd_mono (pd_abs hc hg hm ha he hpl) (rd_cl sc_abs)
theorem q_max (hc : X.calm = true) (hg : Gl X "max") (hm : X.mg "max" = none) (ha : PFA ρ X dx (e :: es) fs) (he : starEach (e :: es) X.env = (false, eval e X.env) :: starEach es X.env := by rfl) (hpl : (backTo pos (starEach es X.env)).any (·.1) = false := by rfl) : PF ρ X dx (.Call (.Name "max" p) (e :: es) [] pos) (fCl clMax fs) := pd_mono (pd_max2 hc hg hm ha he hpl) (rd_cl sc_max)
theorem q_min (hc : X.calm = true) (hg : Gl X "min") (hm : X.mg "min" = none) (ha : PFA ρ X dx (e :: es) fs) (he : starEach (e :: es) X.env = (false, eval e X.env) :: starEach es X.env := by rfl) (hpl : (backTo pos (starEach es X.env)).any (·.1) = false := by rfl) : PF ρ X dx (.Call (.Name "min" p) (e :: es) [] pos) (fCl clMin fs) := pd_mono (pd_min2 hc hg hm ha he hpl) (rd_cl sc_min)
theorem q_intB (hc : X.calm = true) (hg : Gl X "int") (hm : X.mg "int" = none) (ha : PFA ρ X dx (e :: es) fs) (he : starEach (e :: es) X.env = (false, eval e X.env) :: starEach es X.env := by rfl) (hpl : (backTo pos (starEach es X.env)).any (·.1) = false := by rfl) : PF ρ X dx (.Call (.Name "int" p) (e :: es) [] pos) (fCl clInt fs) := pd_mono (pd_int1 hc hg hm ha he hpl) (rd_cl sc_int)
theorem q_list (hc : X.calm = true) (hg : Gl X "list") (hm : X.mg "list" = none) (ha : PFA ρ X dx (e :: es) fs) (he : starEach (e :: es) X.env = (false, eval e X.env) :: starEach es X.env := by rfl) (hpl : (backTo pos (starEach es X.env)).any (·.1) = false := by rfl) : PF ρ X dx (.Call (.Name "list" p) (e :: es) [] pos) (fCl clList fs) := pd_mono (pd_list1 hc hg hm ha he hpl) (rd_cl sc_list)
theorem q_listO (hc : X.calm = true) (hg : Gl X "list") (hm : X.mg "list" = none) (ha : PFA ρ X dx (e :: es) fs) (he : starEach (e :: es) X.env = (false, eval e X.env) :: starEach es X.env := by rfl) (hpl : (backTo pos (starEach es X.env)).any (·.1) = false := by rfl) : PF ρ X dx (.Call (.Name "list" p) (e :: es) [] pos) (fListO fs) := pd_mono (pd_list1O hc hg hm ha he hpl) fun g k h => go_mono (go_bind.mp h) fun rs g1 h1 => by
  split at h1
  · split at h1
    · rename_i t ds hs; exact ⟨_, t, ds, rfl, hs, h1⟩
    · exact h1.elim
  · exact h1.elim
theorem q_tuple (hc : X.calm = true) (hg : Gl X "tuple") (hm : X.mg "tuple" = none) (ha : PFA ρ X dx (e :: es) fs) (he : starEach (e :: es) X.env = (false, eval e X.env) :: starEach es X.env := by rfl) (hpl : (backTo pos (starEach es X.env)).any (·.1) = false := by rfl) : PF ρ X dx (.Call (.Name "tuple" p) (e :: es) [] pos) (fCl clTuple fs) := pd_mono (pd_tuple1 hc hg hm ha he hpl) (rd_cl sc_tuple)
theorem q_all (hc : X.calm = true) (hg : Gl X "all") (hm : X.mg "all" = none) (ha : PFA ρ X dx (e :: es) fs) (he : starEach (e :: es) X.env = (false, eval e X.env) :: starEach es X.env := by rfl) (hpl : (backTo pos (starEach es X.env)).any (·.1) = false := by rfl) : PF ρ X dx (.Call (.Name "all" p) (e :: es) [] pos) (fCl clAll fs) := pd_mono (pd_all1 hc hg hm ha he hpl) (rd_cl sc_all)
theorem q_sorted (hc : X.calm = true) (hg : Gl X "sorted") (hm : X.mg "sorted" = none) (ha : PFA ρ X dx (e :: es) fs) (he : starEach (e :: es) X.env = (false, eval e X.env) :: starEach es X.env := by rfl) (hpl : (backTo pos (starEach es X.env)).any (·.1) = false := by rfl) : PF ρ X dx (.Call (.Name "sorted" p) (e :: es) [] pos) (fCl clSorted fs) := pd_mono (pd_or2 (pd_sorted hg hm ha he hpl) (pd_sortedDt hc hg hm ha he hpl)) (rd_cl2 sorted_says)
end
theorem q_isi {p p1 : Pos} {x : Str} {T : String} (hT : isTy T) (hg : Gl X "isinstance") (hm : X.mg "isinstance" = none) (hgT : Gl X x) (hmT : X.mg x = none) (hv : bootBuiltins x = some (.type T)) (he : PF ρ X dx e f) (hn : x ≠ "__name__" := by decide) (hd : (x == ("__debug__" : Str)) = false := by decide)
    (hs : starEach [e, .Name x p1] X.env = (false, eval e X.env) :: starEach [.Name x p1] X.env := by rfl) : PF ρ X dx (.Call (.Name "isinstance" p) [e, .Name x p1] [] pos) (fIsi T f) := pd_mono (pd_isi hT hg hm hgT hmT hv he hn hd hs) fun g k h => go_mono (go_bind.mp h) fun r g1 h1 => by
  split at h1
  · rename_i t ht; exact ⟨t, ht, h1⟩
  · exact h1.elim
theorem q_isi2 {p p1 p2 p3 : Pos} {x y : Str} {T U : String} {kt : Nat} (hT : isTy T) (hU : isTy U) (hg : Gl X "isinstance") (hm : X.mg "isinstance" = none) (hgT : Gl X x) (hmT : X.mg x = none) (hv : bootBuiltins x = some (.type T)) (hgU : Gl X y) (hmU : X.mg y = none) (hvU : bootBuiltins y = some (.type U)) (he : PF ρ X dx e f)
    (hn : x ≠ "__name__" := by decide) (hd : (x == ("__debug__" : Str)) = false := by decide) (hn' : y ≠ "__name__" := by decide) (hd' : (y == ("__debug__" : Str)) = false := by decide)
    (hs : starEach [e, .Tuple [.Name x p1, .Name y p2] kt p3] X.env = (false, eval e X.env) :: starEach [.Tuple [.Name x p1, .Name y p2] kt p3] X.env := by rfl) :
    PF ρ X dx (.Call (.Name "isinstance" p) [e, .Tuple [.Name x p1, .Name y p2] kt p3] [] pos) (fIsi2 T U f) := pd_mono (pd_isi2 hT hU hg hm hgT hmT hv hgU hmU hvU he hn hd hn' hd' hs) fun g k h => go_mono (go_bind.mp h) fun r g1 h1 => by
  split at h1
  · rename_i t ht; exact ⟨t, ht, h1⟩
  · exact h1.elim
end
end DL
set_option Elab.async false
set_option linter.all false
set_option maxRecDepth 100000
set_option maxHeartbeats 4000000
set_option autoImplicit false
namespace DL
open PySem PySem.Spec PyProof.Rows L2
variable [Tx]
section
variable {ρ : Root} {X : Cx} {dx : DX} {e a b c o tg : Expr} {es : List Expr} {pos : Pos} {f f1 f2 f3 : FE} {fs : FAr} {t u : FT}
def SaysM (m : Mt) (dm : DM) : Prop := ∀ r rs g k q g', m g r rs = some (q, g') → k q g' → dm r rs g k
theorem rd_mt {m : Mt} {dm : DM} (h : SaysM m dm) : ∀ g k, rd dx (fMt m f fs) g k → dMeth dm (rd dx f) (rd dx fs) g k := fun g k hk => go_mono (go_bind.mp hk) fun r g1 h1 => by
  split at h1
  · rename_i hl
    refine ⟨?_, go_mono (go_bind.mp h1) fun rs g2 h2 => ?_⟩
    · unfold isLst at hl
      split at hl
      · rename_i ds e; exact ⟨ds, e⟩
      · cases hl
    · cases hm : m g2 r rs with
      | none => rw [hm] at h2; exact h2.elim
      | some p => rw [hm] at h2; exact h r rs g2 k p.1 p.2 hm h2
  · exact h1.elim
theorem sm_append : SaysM mtAppend mAppend := fun r rs g k q g' e hk => by
  unfold mtAppend at e
  split at e
  · obtain ⟨j, ds, es, rfl, h1, h2, rfl⟩ := onL_eq e
    split at h2
    · rename_i hl; cases h2; exact ⟨j, ds, _, rfl, rfl, h1, hl, hk⟩
    · cases h2
  · cases e
theorem sm_insert : SaysM mtInsert mInsert := fun r rs g k q g' e hk => by
  unfold mtInsert at e
  split at e
  · obtain ⟨j, ds, es, rfl, h1, h2, rfl⟩ := onL_eq e
    split at h2
    · rename_i hl; cases h2; exact ⟨j, ds, _, _, rfl, rfl, h1, hl.1, hl.2.1, hl.2.2, hk⟩
    · cases h2
  · cases e
theorem sm_pop : SaysM mtPop mPopAt := fun r rs g k q g' e hk => by
  unfold mtPop at e
  split at e
  · obtain ⟨j, ds, es, rfl, h1, h2, rfl⟩ := onL_eq e
    unfold popL at h2
    split at h2
    · rename_i hl
      split at h2
      · rename_i n hn
        split at h2
        · rename_i x hx; cases h2; exact ⟨j, ds, _, n, x, rfl, rfl, h1, hl.1, hl.2, hn, hx, hk⟩
        · cases h2
      · cases h2
    · cases h2
  · cases e
theorem sm_extend : SaysM mtExtend mExtend := fun r rs g k q g' e hk => by
  unfold mtExtend at e
  split at e
  · split at e
    · rename_i zs hs
      split at e
      · rename_i hm
        obtain ⟨j, ds, es, rfl, h1, h2, rfl⟩ := onL_eq e
        split at h2
        · rename_i hl; cases h2; exact ⟨j, ds, _, zs, rfl, rfl, hm, h1, hs, hl, hk⟩
        · cases h2
      · cases e
    · cases e
  · cases e
theorem sm_index : SaysM mtIndex mIndex := fun r rs g k q g' e hk => by
  unfold mtIndex at e
  split at e
  · split at e
    · rename_i ds d e1 e2
      split at e
      · rename_i hc
        simp only [Bool.and_eq_true] at hc
        cases hf : ds.findIdx? (fun z => PyData.eqv z d) with
        | none => rw [hf] at e; cases e
        | some n => rw [hf] at e; cases e; exact ⟨ds, _, d, n, e1, rfl, e2, hc.1, hc.2, hf, hk⟩
      · cases e
    · cases e
  · cases e
section
variable {apos cpos : Pos}
theorem q_append (ho : PF ρ X dx o f) (ha : PFA ρ X dx (e :: es) fs)
    (hbase : attributeBase o "append" X.env (eval o X.env) = eval o X.env := by rfl)
    (hfew : ((backTo cpos (starEach (e :: es) X.env)).all (fun x => !x.1) && (backToKw cpos (keywordEach [] X.env)).all (fun x => x.1.isSome) && decide ((e :: es).length + ([] : List Keyword).length + (if ([] : List Keyword).isEmpty then 0 else 1) < 30)) = true := by rfl)
    (hline : (apos.endLine == cpos.line) = true := by rfl) (hs : starEach (e :: es) X.env = (false, eval e X.env) :: starEach es X.env := by rfl) (hplain : (backTo cpos (starEach es X.env)).any (·.1) = false := by rfl) :
    PF ρ X dx (.Call (.Attribute o "append" apos) (e :: es) [] cpos) (fMt mtAppend f fs) := pd_mono (pd_append ho ha hbase hfew hline hs hplain) (rd_mt sm_append)
theorem q_insert (ho : PF ρ X dx o f) (ha : PFA ρ X dx (e :: es) fs)
    (hbase : attributeBase o "insert" X.env (eval o X.env) = eval o X.env := by rfl)
    (hfew : ((backTo cpos (starEach (e :: es) X.env)).all (fun x => !x.1) && (backToKw cpos (keywordEach [] X.env)).all (fun x => x.1.isSome) && decide ((e :: es).length + ([] : List Keyword).length + (if ([] : List Keyword).isEmpty then 0 else 1) < 30)) = true := by rfl)
    (hline : (apos.endLine == cpos.line) = true := by rfl) (hs : starEach (e :: es) X.env = (false, eval e X.env) :: starEach es X.env := by rfl) (hplain : (backTo cpos (starEach es X.env)).any (·.1) = false := by rfl) :
    PF ρ X dx (.Call (.Attribute o "insert" apos) (e :: es) [] cpos) (fMt mtInsert f fs) := pd_mono (pd_insert ho ha hbase hfew hline hs hplain) (rd_mt sm_insert)
theorem q_pop (ho : PF ρ X dx o f) (ha : PFA ρ X dx (e :: es) fs)
    (hbase : attributeBase o "pop" X.env (eval o X.env) = eval o X.env := by rfl)
    (hfew : ((backTo cpos (starEach (e :: es) X.env)).all (fun x => !x.1) && (backToKw cpos (keywordEach [] X.env)).all (fun x => x.1.isSome) && decide ((e :: es).length + ([] : List Keyword).length + (if ([] : List Keyword).isEmpty then 0 else 1) < 30)) = true := by rfl)
    (hline : (apos.endLine == cpos.line) = true := by rfl) (hs : starEach (e :: es) X.env = (false, eval e X.env) :: starEach es X.env := by rfl) (hplain : (backTo cpos (starEach es X.env)).any (·.1) = false := by rfl) :
    PF ρ X dx (.Call (.Attribute o "pop" apos) (e :: es) [] cpos) (fMt mtPop f fs) := pd_mono (pd_popAt ho ha hbase hfew hline hs hplain) (rd_mt sm_pop)
theorem q_extend (ho : PF ρ X dx o f) (ha : PFA ρ X dx (e :: es) fs)
    (hbase : attributeBase o "extend" X.env (eval o X.env) = eval o X.env := by rfl)
    (hfew : ((backTo cpos (starEach (e :: es) X.env)).all (fun x => !x.1) && (backToKw cpos (keywordEach [] X.env)).all (fun x => x.1.isSome) && decide ((e :: es).length + ([] : List Keyword).length + (if ([] : List Keyword).isEmpty then 0 else 1) < 30)) = true := by rfl)
    (hline : (apos.endLine == cpos.line) = true := by rfl) (hs : starEach (e :: es) X.env = (false, eval e X.env) :: starEach es X.env := by rfl) (hplain : (backTo cpos (starEach es X.env)).any (·.1) = false := by rfl) :
    PF ρ X dx (.Call (.Attribute o "extend" apos) (e :: es) [] cpos) (fMt mtExtend f fs) := pd_mono (pd_extend ho ha hbase hfew hline hs hplain) (rd_mt sm_extend)
theorem q_index (hu : X.A.units + 65 < cLine) (ho : PF ρ X dx o f) (ha : PFA ρ X dx (e :: es) fs)
    (hbase : attributeBase o "index" X.env (eval o X.env) = eval o X.env := by rfl)
    (hfew : ((backTo cpos (starEach (e :: es) X.env)).all (fun x => !x.1) && (backToKw cpos (keywordEach [] X.env)).all (fun x => x.1.isSome) && decide ((e :: es).length + ([] : List Keyword).length + (if ([] : List Keyword).isEmpty then 0 else 1) < 30)) = true := by rfl)
    (hline : (apos.endLine == cpos.line) = true := by rfl) (hs : starEach (e :: es) X.env = (false, eval e X.env) :: starEach es X.env := by rfl) (hplain : (backTo cpos (starEach es X.env)).any (·.1) = false := by rfl) :
    PF ρ X dx (.Call (.Attribute o "index" apos) (e :: es) [] cpos) (fMt mtIndex f fs) := pd_mono (pd_index hu ho ha hbase hfew hline hs hplain) (rd_mt sm_index)
end
theorem qg_name {ws : List Nat} (i : Nat) {x : Str} (hN : X.N.Nodup) (hw : i ∈ ws) (hi : X.N[i]? = some x) (hx : Loc X.env.scope x) (hf : X.fn x = true ∨ X.env.scope.names.lookup x = some .local := by first | exact .inl rfl | exact .inr rfl | assumption) : PFG ρ X dx ws (.Name x pos) (tN i) := pdg_mono (pdg_name i hN hw hi hx hf) fun _ _ _ h => h
theorem qgs_nil {ws : List Nat} : PFGs ρ X dx ws [] tNil := pdgs_mono pdgs_nil fun rs g k h => by
  cases rs with
  | nil => exact ⟨rfl, h⟩
  | cons r rs => exact absurd h id
theorem qgs_cons {ws : List Nat} {t : FG} {u : FGs} (h1 : PFG ρ X dx ws e t) (h2 : PFGs ρ X dx ws es u) (hs : (assignEach (e :: es) X.env).map (·.2) = assign e X.env :: (assignEach es X.env).map (·.2) := by rfl) : PFGs ρ X dx ws (e :: es) (tCons t u) := pdgs_mono (pdgs_cons h1 h2 hs) fun rs g k h => by
  cases rs with
  | nil => exact absurd h id
  | cons r rs => exact ⟨r, rs, rfl, go_mono (go_bind.mp h) fun _ g1 h1 => h1⟩
theorem qg_subL {ws : List Nat} {o i : Expr} (ho : PF ρ X dx o f1) (hi : PF ρ X dx i f2)
    (ha : ∀ v, assign (.Subscript o i pos) X.env v = (do
      let ov ← holding [v] (eval o X.env)
      let iv ← holding [v, ov] (eval i X.env)
      standAt pos
      holding [v, ov, iv] (setItem ov iv v)
      release [v, ov, iv] []) := by intro _; rfl) : PFG ρ X dx ws (.Subscript o i pos) (tSub f1 f2) := pdg_mono (pdg_subL ho hi ha) fun r g k h => go_mono (go_bind.mp h) fun r1 g1 h1 => go_mono (go_bind.mp h1) fun r2 g2 h2 => by
  split at h2
  · rename_i x i
    split at h2
    · rename_i q g3 hq
      obtain ⟨j, ds, es, rfl, e1, e2, rfl⟩ := onL_eq hq
      cases hn : ixN ds.length i with
      | none => rw [hn] at e2; cases e2
      | some n => rw [hn] at e2; cases e2; exact ⟨j, ds, i, n, x, rfl, e1, rfl, hn, rfl, h2⟩
    · exact h2.elim
  · exact h2.elim
end
section
variable {ρ : Root} {X : Cx} {dx : DX} {st : Stmt} {rest : List Stmt} {e c tg : Expr} {pos : Pos} {f : FE} {fs : FAr} {t : FT} {u v : FS}
theorem qss_nil : PFSs ρ X dx [] sNx := pdss_mono pdss_nil fun _ _ h => h
theorem rs_sq : ∀ E g, rS dx (sSq u v) E g → sSeq (rS dx u) (rS dx v) E g := fun E g h => go_mono (go_bind.mp h) fun fl g1 h1 => by
  cases fl <;> exact h1
theorem qss_cons (h1 : PFS ρ X dx st u) (h2 : PFSs ρ X dx rest v) : PFSs ρ X dx (st :: rest) (sSq u v) := pdss_mono (pdss_cons h1 h2) rs_sq
theorem qss_one (h1 : PFS ρ X dx st u) : PFSs ρ X dx [st] u := pdss_one h1
theorem qs_expr (he : PF ρ X dx e f) (hs : swapsWith e none pos.line X.env = pure false := by rfl) : PFS ρ X dx (.Expr e pos) (sEx f) := pds_mono (pds_expr he hs) fun E g h => go_mono (go_bind.mp h) fun _ _ h1 => h1
theorem qs_ret (he : PF ρ X dx e f) : PFS ρ X dx (.Return (some e) pos) (sRt f) := pds_mono (pds_ret he) fun E g h => go_mono (go_bind.mp h) fun _ _ h1 => h1
theorem qs_if {a b : List Stmt} (hc : PFT ρ X dx c t) (ha : PFSs ρ X dx a u) (hb : PFSs ρ X dx b v) : PFS ρ X dx (.If c a b pos) (sIte t u v) := pds_mono (pds_if hc ha hb) fun E g h => go_mono (go_bind.mp h) fun c g1 h1 => by
  cases c <;> exact h1
theorem rs_set {t : FG} : ∀ E g, rS dx (sSet f t) E g → sAsg (rd dx f) (rG dx t) E g := fun E g h => go_mono (go_bind.mp h) fun r g1 h1 => go_mono (go_bind.mp h1) fun _ g2 h2 => h2
theorem qs_asg {ws : List Nat} {t : FG} (he : PF ρ X dx e f) (hg : PFG ρ X dx ws tg t) (hs : swapsWithSole [tg] e pos.line X.env = pure false := by rfl) (hw : swappedStores [tg] e X.env = pure none := by rfl)
    (h1 : (assignEach [tg] X.env).map (·.2) = [assign tg X.env] := by rfl) : PFS ρ X dx (.Assign [tg] e pos) (sSet f t) := pds_mono (pds_asg he hg hs hw h1) rs_set
theorem qs_set {i : Nat} {x : Str} {pos' : Pos} (hN : X.N.Nodup) (hi : X.N[i]? = some x) (hx : Loc X.env.scope x) (he : PF ρ X dx e f) (hs : swapsWith e (some (.Name x pos')) pos.line X.env = pure false := by rfl)
    (hf : X.fn x = true ∨ X.env.scope.names.lookup x = some .local := by first | exact .inl rfl | exact .inr rfl | assumption) : PFS ρ X dx (.Assign [.Name x pos'] e pos) (sSet f (tN i)) := pds_mono (pds_set hN hi hx he hs hf) fun E g h => go_mono (go_bind.mp h) fun r g1 h1 => h1
theorem qs_par {i j : Nat} {x y : Str} {a b : Expr} {px py pt : Pos} {kt k2 pt2} (hc : X.calm = true) (hN : X.N.Nodup) (hi : X.N[i]? = some x) (hj : X.N[j]? = some y) (hij : i ≠ j)
    (hx : X.env.scope.names.lookup x = some .local) (hy : X.env.scope.names.lookup y = some .local) (ha : PFA ρ X dx [a, b] fs) (hw : swappedStores [.Tuple [.Name x px, .Name y py] kt pt] (.Tuple [a, b] k2 pt2) X.env = pure (some [x, y]))
    (hs : swapsWithSole [.Tuple [.Name x px, .Name y py] kt pt] (.Tuple [a, b] k2 pt2) pos.line X.env = pure false := by rfl) : PFS ρ X dx (.Assign [.Tuple [.Name x px, .Name y py] kt pt] (.Tuple [a, b] k2 pt2) pos) (sP2 i j fs) :=
  pds_mono (pds_par hc hN hi hj hij hx hy ha hw hs) fun E g h => go_mono (go_bind.mp h) fun rs g1 h1 => by
    split at h1
    · exact ⟨_, _, rfl, h1⟩
    · exact h1.elim
theorem qs_par3 {i j l : Nat} {x y z : Str} {a b c : Expr} {px py pz pt : Pos} {kt k2 pt2} (hc : X.calm = true) (hN : X.N.Nodup) (hi : X.N[i]? = some x) (hj : X.N[j]? = some y) (hl : X.N[l]? = some z) (hij : i ≠ j) (hil : i ≠ l) (hjl : j ≠ l)
    (hx : X.env.scope.names.lookup x = some .local) (hy : X.env.scope.names.lookup y = some .local) (hz : X.env.scope.names.lookup z = some .local) (ha : PFA ρ X dx [a, b, c] fs)
    (hw : swappedStores [.Tuple [.Name x px, .Name y py, .Name z pz] kt pt] (.Tuple [a, b, c] k2 pt2) X.env = pure (some [x, y, z]))
    (hs : swapsWithSole [.Tuple [.Name x px, .Name y py, .Name z pz] kt pt] (.Tuple [a, b, c] k2 pt2) pos.line X.env = pure false := by rfl) : PFS ρ X dx (.Assign [.Tuple [.Name x px, .Name y py, .Name z pz] kt pt] (.Tuple [a, b, c] k2 pt2) pos) (sP3 i j l fs) :=
  pds_mono (pds_par3 hc hN hi hj hl hij hil hjl hx hy hz ha hw hs) fun E g h => go_mono (go_bind.mp h) fun rs g1 h1 => by
    split at h1
    · exact ⟨_, _, _, rfl, h1⟩
    · exact h1.elim
theorem qs_putD {o i value : Expr} {pos' : Pos} {fd fi fv : FE} (hu : X.A.units + 1 < cLine) (ho : PF ρ X dx o fd) (hi : PF ρ X dx i fi) (hv : PF ρ X dx value fv) (hs : swapsWith value (some (.Subscript o i pos')) pos.line X.env = pure false := by rfl) :
    PFS ρ X dx (.Assign [.Subscript o i pos'] value pos) (sPut fd fi fv) := ps_imp (ps_dput hu ho hi hv hs) fun D s H ⟨F, g, tm, E, B, al, S, h, ok⟩ =>
  ⟨F, g, tm, _, B, al, S, go_bind.mp h, fun v H1 rv g1 B1 al1 hk1 S1 => ⟨F, g1, (v, rv) :: tm, _, B1, al1, S1, go_bind.mp hk1, fun x H2 rdd g2 B2 al2 hk2 S2 => ⟨F, g2, (x, rdd) :: (v, rv) :: tm, _, B2, al2, S2, go_bind.mp hk2, fun y H3 ri g3 B3 al3 h3 S3 => by
    split at h3
    · rename_i xd j key
      split at h3
      · rename_i ct hct
        split at h3
        · rename_i ct' hp
          obtain ⟨p, hpa, ex⟩ := S3.tm (x, R.o j) (by simp)
          have ex : x = .ref p := ex
          subst ex
          have hy : Dq B3 y key := S3.top rfl
          have hv2 : Dq B3 v xd := S3.tm (v, R.d xd) (by simp)
          have hc := S3.ce j p _ hpa hct
          have T := S3.temps (tm' := tm) fun z hz => List.mem_cons_of_mem _ (List.mem_cons_of_mem _ (List.mem_cons_of_mem _ hz))
          cases ct with
          | dead => cases hp
          | lst ds => cases hp
          | dK kvs =>
            obtain ⟨us, h1, h2⟩ := hc
            simp only [dPut] at hp
            split at hp
            · rename_i hl
              cases hk : keyOf key with
              | none => rw [hk] at hp; cases hp
              | some k =>
                rw [hk] at hp
                cases hp
                refine ⟨p, _, rfl, .inl ⟨us, k, h1, key_ok hy hk, ?_, rfl⟩, ok.nx s _ _ B3 al3 h3 (T.put hpa hct (by simp) ⟨_, upd_same, put_okP hv2 h2⟩)⟩
                rw [Paired.length h2]
                exact sz_lt hl
            · cases hp
          | dN kvs => simp only [dPut] at hp; cases hp
          | dL kvs => simp only [dPut] at hp; cases hp
          | dF kvs => simp only [dPut] at hp; cases hp
          | ins _ _ _ => simp only [dPut] at hp; cases hp
          | odx => simp only [dPut] at hp; cases hp
          | lM _ => simp only [dPut] at hp; cases hp
          | dT kvs => simp only [dPut] at hp; cases hp
        · exact h3.elim
      · exact h3.elim
    · exact h3.elim⟩⟩⟩
theorem qs_while {body : List Stmt} (hp : PassesOwn (model X.prog X.w) X.A X.env X.xe) (hc : PFT ρ X dx c t) (hb : PFSs ρ X dx body u) : PFS ρ X dx (.While c body [] pos) (sWh t u) := pds_mono (pds_while hp hc hb) fun E g h => by
  have hn : sWh t u g ≠ .no := fun z => by unfold rS at h; rw [z] at h; exact h
  obtain ⟨n, en⟩ := sWh_ex hn
  refine ⟨fun m g => (whGo t u m g).go dx (flK E), ⟨n, by show (whGo t u n g).go dx (flK E); rw [en]; exact h⟩, fun m g h => ?_⟩
  cases m with
  | zero => exact h.elim
  | succ m =>
    refine go_mono (go_bind.mp h) fun c g1 h1 => ?_
    cases c with
    | false => exact h1
    | true =>
      refine go_mono (go_bind.mp h1) fun fl g2 h2 => ?_
      cases fl with
      | nx => exact ⟨m, Nat.lt_succ_self m, h2⟩
      | ct => exact ⟨m, Nat.lt_succ_self m, h2⟩
      | bk => exact h2
      | rt r => exact h2
theorem qs_for {ws : List Nat} {iter : Expr} {body : List Stmt} {i : FI} {t : FG} (hp : PassesOwn (model X.prog X.w) X.A X.env X.xe) (hc : X.calm = true) (hi : PFI ρ X dx tg iter i) (hg : PFG ρ X dx ws tg t) (hb : PFSs ρ X dx body u)
    (hs : ∀ x, foldedSetIterable iter X.env x = pure x := by intro _; rfl) : PFS ρ X dx (.For tg iter body [] pos) (sFr i t u) := pds_mono (pds_for hp hc hi hg hb hs) fun E g h => go_mono (go_bind.mp h) fun ds g1 h1 => by
  refine ⟨fun i g => (forGo t u (ds.drop i) g).go dx (flK E), h1, fun i g h => ⟨fun e => ?_, fun x hx => ?_⟩⟩
  · have h : (forGo t u (ds.drop i) g).go dx (flK E) := h
    rw [List.drop_of_length_le (by omega)] at h
    exact h
  · have hl := (List.getElem?_eq_some_iff.mp hx).1
    have hx' : ds[i] = x := (List.getElem?_eq_some_iff.mp hx).2
    have h : (forGo t u (ds.drop i) g).go dx (flK E) := h
    rw [List.drop_eq_getElem_cons hl, hx'] at h
    refine go_mono (go_bind.mp h) fun _ g1 h1 => go_mono (go_bind.mp h1) fun fl g2 h2 => ?_
    cases fl with
    | nx => exact h2
    | ct => exact h2
    | bk => exact h2
    | rt r => exact h2
variable {es : List Expr} {a b : Expr} {p : Pos}
theorem qi_seq {l : Expr} (h : PF ρ X dx l f) : PFI ρ X dx tg l (iSeq f) := pdi_mono (pdi_seq h) fun g k h => go_mono (go_bind.mp h) fun r g1 h1 => by
  split at h1
  · rename_i hn
    split at h1
    · rename_i t ds hs; exact ⟨t, ds, hn, hs, h1⟩
    · exact h1.elim
  · exact h1.elim
theorem qi_range1 (hg : Gl X "range") (hm : X.mg "range" = none) (ha : PFA ρ X dx [a] fs) (hs : starEach [a] X.env = [(false, eval a X.env)] := by rfl) : PFI ρ X dx tg (.Call (.Name "range" p) [a] [] pos) (iRg1 fs) := pdi_mono (pdi_range1 hg hm ha hs) fun g k h => go_mono (go_bind.mp h) fun rs g1 h1 => by
  split at h1
  · split at h1
    · rename_i hr
      have hr := of_decide_eq_true hr
      exact ⟨_, rfl, hr.1, hr.2, h1⟩
    · exact h1.elim
  · exact h1.elim
theorem qi_range2 (hg : Gl X "range") (hm : X.mg "range" = none) (ha : PFA ρ X dx [a, b] fs) (hs : starEach [a, b] X.env = [(false, eval a X.env), (false, eval b X.env)] := by rfl) (hs2 : starEach [b] X.env = [(false, eval b X.env)] := by rfl) : PFI ρ X dx tg (.Call (.Name "range" p) [a, b] [] pos) (iRg2 fs) := pdi_mono (pdi_range2 hg hm ha hs hs2) fun g k h => go_mono (go_bind.mp h) fun rs g1 h1 => by
  split at h1
  · split at h1
    · rename_i hr
      simp only [Bool.and_eq_true] at hr
      have h2 := of_decide_eq_true hr.1
      have h3 := of_decide_eq_true hr.2
      exact ⟨_, _, rfl, ⟨h2.1, h2.2, h3.1, h3.2⟩, h1⟩
    · exact h1.elim
  · exact h1.elim
theorem seqD_of {g : G} {x : PyData} {ds : List PyData} (h : seqD x = some ds) : ∃ t, seqOf g (.d x) = some (t, ds) := by
  cases x with
  | list xs => cases h; exact ⟨false, rfl⟩
  | tuple xs => cases h; exact ⟨true, rfl⟩
  | _ => cases h
section
variable {e1 e2 e3 : Expr} {elts : List Expr} {kk : Nat} {tpos kp pc : Pos} {kc : Nat}
theorem rd_z2 : ∀ g k, rd dx (iZ2 fs) g k → iZipS2 (rd dx fs) g k := fun g k h => go_mono (go_bind.mp h) fun rs g1 h1 => by
  split at h1
  · split at h1
    · rename_i xs ys hx hy
      split at h1
      · rename_i hl
        obtain ⟨t1, s1⟩ := seqD_of (g := g1) hx
        obtain ⟨t2, s2⟩ := seqD_of (g := g1) hy
        exact ⟨_, t1, xs, _, t2, ys, rfl, s1, s2, hl, h1⟩
      · exact h1.elim
    · exact h1.elim
  · exact h1.elim
theorem qi_zipP2 (hg : Gl X "zip") (hm : X.mg "zip" = none) (ha : PFA ρ X dx [e1, e2] fs) (hs : starEach [e1, e2] X.env = (false, eval e1 X.env) :: starEach [e2] X.env := by rfl) (hpl : (backTo pos (starEach [e2] X.env)).any (·.1) = false := by rfl) :
    PFI ρ X dx (.Tuple elts kk tpos) (.Call (.Name "zip" p) [e1, e2] [] pos) (iZ2 fs) := pdi_mono (pdi_zipP2 hg hm ha hs hpl) rd_z2
end
end
abbrev dx0 : DX := fun _ _ => False
section
variable {ρ : Root} {X : Cx} {dx : DX} {tg iter elt : Expr} {ifs : List Expr} {pos : Pos} {scope : Scope} {own : List (Str × Nat)} {i : FI} {t : FG} {c : FT} {f : FE}
theorem rd_lcAt {ws : List Nat} {k : List PyData → G → Prop} {sl : List (Option R)} {ds : List PyData} {ce : List Ct} (h : (lcGo t c f sl ws ds [] ce).go dx k) :
    ∃ I : Nat → List PyData → List Ct → Prop, I 0 [] ce ∧ ∀ i acc ce, I i acc ce → (i = ds.length → k acc ⟨sl, ce⟩) ∧ ∀ x, ds[i]? = some x → acc.length < 100000 ∧ rG dx0 t (.d x) ⟨wipeG sl ws, ce⟩ fun g2 => rd dx0 c g2 fun b g3 =>
    if b = true then rd dx0 f g3 fun y g4 => ∃ d, y = .d d ∧ I (i + 1) (acc ++ [d]) g4.ce else I (i + 1) acc g3.ce := by
  have noex : ∀ (ds acc : List PyData) (ce : List Ct) n g, lcGo t c f sl ws ds acc ce ≠ .ex n g := by
    intro ds
    induction ds with
    | nil => intro acc ce n g z; cases z
    | cons x ds ih =>
      intro acc ce n g z
      unfold lcGo at z
      split at z
      · split at z
        · split at z
          · split at z
            · exact ih _ _ _ _ z
            · cases z
          · exact ih _ _ _ _ z
          · cases z
        · cases z
      · cases z
  refine ⟨fun i acc ce => (lcGo t c f sl ws (ds.drop i) acc ce).go dx0 k, ?_, fun i acc ce h => ⟨fun e => ?_, fun x hx => ?_⟩⟩
  · show (lcGo t c f sl ws ds [] ce).go dx0 k
    cases hg : lcGo t c f sl ws ds [] ce with
    | ok a g => rw [hg] at h; exact h
    | no => rw [hg] at h; exact h
    | ex n g => exact absurd hg (noex _ _ _ _ _)
  · have h : (lcGo t c f sl ws (ds.drop i) acc ce).go dx0 k := h
    rw [List.drop_of_length_le (by omega)] at h
    exact h
  · have hl := (List.getElem?_eq_some_iff.mp hx).1
    have hx' : ds[i] = x := (List.getElem?_eq_some_iff.mp hx).2
    have h : (lcGo t c f sl ws (ds.drop i) acc ce).go dx0 k := h
    rw [List.drop_eq_getElem_cons hl, hx'] at h
    unfold lcGo at h
    split at h
    · rename_i ha
      refine ⟨ha, ?_⟩
      unfold rG rd
      split at h
      · rename_i g2 ht
        rw [ht]
        show (c g2).go dx0 _
        split at h
        · rename_i g3 hc
          rw [hc]
          simp only [Out.go, if_true]
          split at h
          · rename_i d g4 hf
            rw [hf]
            exact ⟨d, rfl, h⟩
          · exact h.elim
        · rename_i g3 hc
          rw [hc]
          simp only [Out.go, Bool.false_eq_true, if_false]
          exact h
        · exact h.elim
      · exact h.elim
    · exact h.elim
theorem rd_lc {ws : List Nat} : ∀ g k, rd dx (fLc i t c f ws) g k → dLc (rd dx i) (rG dx0 t) (rd dx0 c) (rd dx0 f) ws g k := fun g k h => go_mono (go_bind.mp h) fun ds g1 h1 => rd_lcAt (k := fun acc g => k (.d (.list acc)) g) (go_bind.mp h1)
theorem rd_lcO {ws : List Nat} : ∀ g k, rd dx (fLcO i t c f ws) g k → dLcO (rd dx i) (rG dx0 t) (rd dx0 c) (rd dx0 f) ws g k := fun g k h => go_mono (go_bind.mp h) fun ds g1 h1 => rd_lcAt (k := fun acc g => k (.o g.ce.length) { g with ce := g.ce ++ [.lst acc] }) (go_bind.mp h1)
theorem q_lc (hc : X.calm = true) (hN : X.N.Nodup) (hi : PFI ρ X dx tg iter i) (ok : BlkOk X.N X.env.scope scope own)
    (hg : ∀ (s : Shared) (H : Hp) (C : Addr) (cl : List (Str × Addr)) (fp : List Addr), PFG ρ (X.blk s H scope (compEnvC scope cl C X.env) fp) dx0 (own.map (·.2)) tg t)
    (ht : ∀ (s : Shared) (H : Hp) (C : Addr) (cl : List (Str × Addr)) (fp : List Addr), PFTs ρ (X.blk s H scope (compEnvC scope cl C X.env) fp) dx0 ifs c)
    (he : ∀ (s : Shared) (H : Hp) (C : Addr) (cl : List (Str × Addr)) (fp : List Addr), PF ρ (X.blk s H scope (compEnvC scope cl C X.env) fp) dx0 elt f) (hs : ∀ x, foldedSetIterable iter X.env x = pure x := by intro _; rfl) :
    PF ρ X dx (.ListComp elt [⟨tg, iter, ifs, 0⟩] scope pos) (fLc i t c f (own.map (·.2))) := pd_mono (pd_lc hc hN hi ok hg ht he hs) rd_lc
theorem q_lcO (hc : X.calm = true) (hN : X.N.Nodup) (hi : PFI ρ X dx tg iter i) (ok : BlkOk X.N X.env.scope scope own)
    (hg : ∀ (s : Shared) (H : Hp) (C : Addr) (cl : List (Str × Addr)) (fp : List Addr), PFG ρ (X.blk s H scope (compEnvC scope cl C X.env) fp) dx0 (own.map (·.2)) tg t)
    (ht : ∀ (s : Shared) (H : Hp) (C : Addr) (cl : List (Str × Addr)) (fp : List Addr), PFTs ρ (X.blk s H scope (compEnvC scope cl C X.env) fp) dx0 ifs c)
    (he : ∀ (s : Shared) (H : Hp) (C : Addr) (cl : List (Str × Addr)) (fp : List Addr), PF ρ (X.blk s H scope (compEnvC scope cl C X.env) fp) dx0 elt f) (hs : ∀ x, foldedSetIterable iter X.env x = pure x := by intro _; rfl) :
    PF ρ X dx (.ListComp elt [⟨tg, iter, ifs, 0⟩] scope pos) (fLcO i t c f (own.map (·.2))) := pd_mono (pd_lcO hc hN hi ok hg ht he hs) rd_lcO
theorem qs_setLc {j : Nat} {y : Str} {py spos : Pos} (hc : X.calm = true) (hN : X.N.Nodup) (hy : X.N[j]? = some y) (hyl : X.env.scope.names.lookup y = some .local)
    (hsw : swapsWith (.ListComp elt [⟨tg, iter, ifs, 0⟩] scope pos) (some (.Name y py)) spos.line X.env = pure true) (hi : PFI ρ X dx tg iter i) (ok : BlkOk X.N X.env.scope scope own)
    (hg : ∀ (s : Shared) (H : Hp) (C : Addr) (cl : List (Str × Addr)) (fp : List Addr), PFG ρ (X.blk s H scope (compEnvC scope cl C X.env) fp) dx0 (own.map (·.2)) tg t)
    (ht : ∀ (s : Shared) (H : Hp) (C : Addr) (cl : List (Str × Addr)) (fp : List Addr), PFTs ρ (X.blk s H scope (compEnvC scope cl C X.env) fp) dx0 ifs c)
    (he : ∀ (s : Shared) (H : Hp) (C : Addr) (cl : List (Str × Addr)) (fp : List Addr), PF ρ (X.blk s H scope (compEnvC scope cl C X.env) fp) dx0 elt f) (hs : ∀ x, foldedSetIterable iter X.env x = pure x := by intro _; rfl) :
    PFS ρ X dx (.Assign [.Name y py] (.ListComp elt [⟨tg, iter, ifs, 0⟩] scope pos) spos) (sSet (fLc i t c f (own.map (·.2))) (tN j)) :=
  pds_mono (ps_imp (ps_setLc hc hN hy hyl hsw hi ok hg ht he hs) fun D s H h => ref_lc (own := false) s H _ (ref_asgN D s H h)) fun E g h => rd_lc g _ (go_mono (go_bind.mp h) fun r g1 h1 => h1)
end
end DL
set_option Elab.async false
set_option linter.all false
set_option maxRecDepth 100000
set_option maxHeartbeats 4000000
set_option autoImplicit false
namespace DL
open PySem PySem.Spec PyProof.Rows L2
variable [Tx]
/-- the promise: the def does what the function f says -/
def spF (fr : PySem.W.Frag) (cl : Str → Addr) (n : Nat) (f : Fn) : Sp := fun vs H Q E => ∃ (B O : Hp) (ps : List Addr) (bx : List Ct) (rs : List R), vs.length = n ∧ Stt (kAt fr cl B O ps) ⟨B, O, ps⟩ ⟨[], bx⟩ [] [] H B ps ∧ Paired (RvOk (kAt fr cl B O ps) B ps) vs rs ∧ f rs bx ≠ .no ∧
  (∀ v H' q bx' B' al' ce', f rs bx = .ok q bx' → bx'.length = ps.length → Stt (kAt fr cl B O ps) ⟨B, O, ps⟩ ⟨[], bx' ++ ce'⟩ [] [] H' B' al' → ResOk B' al' (bx' ++ ce') ps.length v q → Q v H') ∧
  ∀ n cls d H' bx' B' al' ce', f rs bx = .ex n bx' → bx'.length = ps.length → Stt (kAt fr cl B O ps) ⟨B, O, ps⟩ ⟨[], bx' ++ ce'⟩ [] [] H' B' al' → XnOk (kAt fr cl B O ps) B' n cls d → E cls d H'
section
variable {P : Program} {w : World} {fr : PySem.W.Frag} {mg : Str → Option Value} {base : Heap} {cl : Str → Addr}
theorem split_ce {K : KR} {F : Fm} {g : G} {H B : Hp} {al : List Addr} (S : Stt K F g [] [] H B al) : ∃ ce', g.ce = g.ce.take F.P.length ++ ce' ∧ (g.ce.take F.P.length).length = F.P.length := by
  obtain ⟨t, ht⟩ := S.pre
  refine ⟨g.ce.drop F.P.length, (List.take_append_drop _ _).symm, ?_⟩
  rw [List.length_take, ← S.len, ht, List.length_append]
  omega
/-- THE RULE for a def -/
theorem fnF {x qual : Str} {st : Stmt} {f : Addr} {fd : FuncData} {N ps : List Str} {k : Nat} {u : FS} (F : Fun fr x qual st f fd) (S : FnScope N ps (defScope st))
    (body : ∀ (cdv : Value) (A : Around) (outer : List Env) (s : Shared) (H : Hp) (E : XK) (ρ : Root) (dx : DX), ρ.cl = cl → Calm k (A.deeper (envOfC qual (defScope st) s.heap.objs.size f cdv)) →
      Takes (cxOf (L2.CX P w) P w fr mg base N qual (defScope st) f cdv A outer s H E) (liftX ⟨fr, ρ⟩ dx) →
      PFSs ρ (cxOf (L2.CX P w) P w fr mg base N qual (defScope st) f cdv A outer s H E) dx (defBody st) u) : FnG P w fr mg base (L2.CX P w) (k + 1) f fd ps (spF fr cl ps.length (mkFn N.length u)) := by
  refine DL.Fun.goes F S (fun vs H Q E h => ?_) (fun cdv A outer s H vs Q E hr h => ?_)
  · obtain ⟨B, O, ps, bx, rs, hl, _⟩ := h
    exact hl
  · obtain ⟨B, O, pp, bx, rs, hl, S0, pr, hn, q, qx⟩ := h
    have bl : bx.length = pp.length := S0.len.symm
    have tk0 : Takes (cxOf (L2.CX P w) P w fr mg base N qual (defScope st) f cdv A outer s H E) (fun cls d _ H => E cls d H) := takes_of rfl rfl rfl rfl
    have tk := tk0.imp (W' := liftX ⟨fr, ⟨B, O, pp, cl⟩⟩ fun n g => u (g0 N.length rs bx) = .ex n g) fun c d σ H' ⟨F', g', tm', B', al', n, S', hg, hxn⟩ => by
      have S2 := S'.root
      obtain ⟨ce', e1, e2⟩ := split_ce S2
      have e1 : g'.ce = g'.ce.take pp.length ++ ce' := e1
      have e2 : (g'.ce.take pp.length).length = pp.length := e2
      refine qx n c d H' (g'.ce.take pp.length) B' al' ce' ?_ e2 ?_ hxn
      · unfold mkFn
        rw [hg, bl]
      · rw [← e1]; exact S2
    have hd := body cdv A outer s H E ⟨B, O, pp, cl⟩ _ rfl hr tk
    refine ⟨_, hd, ⟨B, O, pp⟩, g0 N.length rs bx, [], { nx := fun g => u (g0 N.length rs bx) = .ok .nx g, rt := fun r g => u (g0 N.length rs bx) = .ok (.rt r) g }, B, pp, stt_start S0 pr, ?_, ?_⟩
    · unfold rS
      cases hu : u (g0 N.length rs bx) with
      | no => unfold mkFn at hn; rw [hu] at hn; exact absurd rfl hn
      | ex n g => exact rfl
      | ok fl g =>
        cases fl with
        | nx => exact rfl
        | rt r => exact rfl
        | bk => unfold mkFn at hn; rw [hu] at hn; exact absurd rfl hn
        | ct => unfold mkFn at hn; rw [hu] at hn; exact absurd rfl hn
    · refine ⟨fun s' H' g' B' al' h' S' => ?_, fun s' v H' r g' B' al' h' S' => ?_, fun s' H' g' B' al' h' S' => h'.elim, fun s' H' g' B' al' h' S' => h'.elim, rfl⟩
      · have S2 := S'.bare
        obtain ⟨ce', e1, e2⟩ := split_ce S2
        have e1 : g'.ce = g'.ce.take pp.length ++ ce' := e1
        have e2 : (g'.ce.take pp.length).length = pp.length := e2
        refine q .non H' (.dat .none) (g'.ce.take pp.length) B' al' ce' ?_ e2 (by rw [← e1]; exact S2) Dq.non
        unfold mkFn
        rw [h', bl]
        rfl
      · have hv := S'.top rfl
        have S2 := S'.bare
        obtain ⟨ce', e1, e2⟩ := split_ce S2
        have e1 : g'.ce = g'.ce.take pp.length ++ ce' := e1
        have e2 : (g'.ce.take pp.length).length = pp.length := e2
        have ef : mkFn N.length u rs bx = finF bx.length r g' := by unfold mkFn; rw [h']
        rw [ef] at hn
        cases r with
        | d y => exact q v H' (.dat y) (g'.ce.take pp.length) B' al' ce' (by rw [ef, bl]; rfl) e2 (by rw [← e1]; exact S2) hv
        | s ns => exact absurd rfl hn
        | x n => exact absurd rfl hn
        | l js => exact absurd rfl hn
        | t _ _ => exact absurd rfl hn
        | f j ds => exact absurd rfl hn
        | u nd ds => exact absurd rfl hn
        | m ct =>
          obtain ⟨a, z1, z2, z3⟩ := hv
          exact q v H' (.shC ct) (g'.ce.take pp.length) B' al' ce' (by rw [ef, bl]; rfl) e2 (by rw [← e1]; exact S2) ⟨a, z1, z2, _, _, z3⟩
        | o j =>
          obtain ⟨p, z1, z2⟩ := hv
          unfold finF at hn ef
          by_cases hj : bx.length ≤ j
          · simp only [if_pos hj] at hn ef
            cases hc : g'.ce[j]? with
            | none => simp only [hc] at hn; exact absurd rfl hn
            | some ct =>
              simp only [hc] at hn ef
              have hnd : flat ct = true := by
                cases ct with
                | dead => exact absurd rfl hn
                | ins _ _ _ => exact absurd rfl hn
                | odx => exact absurd rfl hn
                | lM _ => exact absurd rfl hn
                | _ => rfl
              refine q v H' (.newC ct) (g'.ce.take pp.length) B' al' ce' ?_ e2 (by rw [← e1]; exact S2) ⟨j, p, by omega, z1, z2, by rw [← e1]; exact hc, hnd⟩
              rw [ef, bl]
              cases ct with
              | dead => cases hnd
              | ins _ _ _ => cases hnd
              | odx => cases hnd
              | lM _ => cases hnd
              | lst _ => rfl
              | dK _ => rfl
              | dT _ => rfl
              | dN _ => rfl
              | dL _ => rfl
              | dF _ => rfl
          · simp only [if_neg hj] at hn
            exact absurd rfl hn
end
section
variable {ρ : Root} {X : Cx} {dx : DX} {k : Nat} {f : Addr} {fd : FuncData} {ps : List Str} {x : Str} {p pos : Pos} {e : Expr} {es : List Expr} {K : KR} {fn : Fn} {fs : FAr} {own : Bool}
theorem ref_callF {n : Nat} : ∀ s H Q, lift K (fun g k => rd dx fs g fun rs g1 => rs.length = n ∧ (callF fn own rs g1).go dx k) s H Q → tCallS (spF K.fr K.rt.cl n fn) (WE (liftX K dx)) (liftA K (rd dx fs)) s H Q := fun s H Q ⟨F, g, tm, kk, B, al, S, hk, q⟩ =>
  ⟨F, g, tm, _, B, al, S, hk, fun vs H1 rs g1 B1 al1 ⟨hlen, hc⟩ S1 pr => by
    show spF K.fr K.rt.cl n fn vs H1 Q _
    unfold callF at hc
    split at hc
    · rename_i hb
      obtain ⟨pp, bb⟩ := bxs_mk S1.len hb.1 hb.2.1
      refine ⟨B1, ownP F H1 B1 al1 pp, pp, _, rs.map (renR (boxes rs)), by rw [pr.length]; exact hlen, callP_in S1 bb, paired_ren bb pr hb.2.2 (fun j h => h), ?_, ?_, ?_⟩
      · intro z
        rw [z] at hc
        exact hc
      · intro v H' qq bx' B' al' ce' ef hl S' hr
        rw [ef] at hc
        have S2 := callP_out S1 bb hl S'
        cases qq with
        | dat y => exact q v H' (.d y) _ B' al1 hc (S2.push hr)
        | shC ct =>
          obtain ⟨a, e1, e2, _, _, e3⟩ := hr
          exact q v H' (.m ct) _ B' al1 hc (S2.push ⟨a, e1, e2, ct_any e2 e3⟩)
        | newC ct =>
          obtain ⟨j, p, hj, e1, e2, e3, e4⟩ := hr
          subst e2
          obtain ⟨a1, a2, a3, a4, a5⟩ := callP_new S1 bb S' hj e1 e3 e4
          cases own with
          | false =>
            obtain ⟨B3, S3⟩ := S2.take a1 a2 a3 a4 a5 e4
            exact q _ H' _ _ B3 al1 hc S3
          | true =>
            have z := S2.own_at (p := p)
            exact q _ H' _ _ B' (al1 ++ [p]) hc ((S2.adoptO a1 a2 a3 a4 a5).push ⟨p, z, rfl⟩)
      · intro n cls d H' bx' B' al' ce' ef hl S' hx
        rw [ef] at hc
        exact ⟨F, _, tm, B', al1, n, callP_out S1 bb hl S', hc, hx⟩
    · exact hc.elim⟩
/-- arguments in number -/
def nArgs (n : Nat) (f : FAr) : Prop := ∀ g rs g', f g = .ok rs g' → rs.length = n
theorem nArgs_nil : nArgs 0 fNil := fun g rs g' h => by cases h; rfl
theorem nArgs_cons {n : Nat} {f : FE} {fs : FAr} (h : nArgs n fs) : nArgs (n + 1) (fCons f fs) := fun g rs g' e => by
  unfold fCons at e
  cases h1 : f g with
  | no => rw [h1] at e; cases e
  | ex n g => rw [h1] at e; cases e
  | ok r g1 =>
    rw [h1] at e
    simp only [bind_ok] at e
    cases h2 : fs g1 with
    | no => rw [h2] at e; cases e
    | ex n g => rw [h2] at e; cases e
    | ok rs g2 =>
      rw [h2] at e
      cases e
      rw [List.length_cons, h g1 rs _ h2]
theorem q_call (own : Bool) (tk : Takes X (liftX ⟨X.K, ρ⟩ dx)) (G : FnG X.prog X.w X.K X.mg X.base (L2.CX X.prog X.w) k f fd ps (spF X.K ρ.cl ps.length fn)) (hr : Calm k X.A) (hg : Gl X x) (hm : X.mg x = some (.ref f)) (hk : PySem.W.keepIn X.K (.ref f) = true) (hb : Binds X.K fd ps []) (ha : PFA ρ X dx (e :: es) fs) (hn : nArgs ps.length fs) (hdb : (x == ("__debug__" : Str)) = false := by decide)
    (he : starEach (e :: es) X.env = (false, eval e X.env) :: starEach es X.env := by rfl) (hpl : (backTo pos (starEach es X.env)).any (·.1) = false := by rfl) : PF ρ X dx (.Call (.Name x p) (e :: es) [] pos) (fCall fn own fs) :=
  pe_imp (pe_callG G hr hg hm hk hb (passAt tk) ha hdb he hpl) fun s H Q ⟨F, g, tm, kk, B, al, S, hk, q⟩ => ref_callF (own := own) s H Q ⟨F, g, tm, kk, B, al, S, (by
    unfold rd fCall at hk
    show (fs g).go dx _
    cases h1 : fs g with
    | no => rw [h1] at hk; exact hk
    | ex n g => rw [h1] at hk; exact hk
    | ok rs g1 => rw [h1] at hk; exact ⟨hn g rs g1 h1, hk⟩), q⟩
end
end DL
set_option Elab.async false
set_option linter.all false
set_option maxRecDepth 100000
set_option maxHeartbeats 4000000
set_option autoImplicit false
namespace DL
open PySem PySem.Spec PyProof.Rows L2
@[simp] theorem onI_ap (f : Int → Int → Option PyData) (u0 : G) (r1 : R) (r2 : R) : onI f u0 r1 r2 = (match r1, r2 with
  | .d (.int i), .d (.int j) => (f i j).map .d
  | _, _ => none) := id rfl
@[simp] theorem opMul_ap (g : G) (r1 : R) (r2 : R) : opMul g r1 r2 = (match r1, r2 with
  | .d (.int i), .d (.int j) => if mulOk i j then some (.d (.int (i * j))) else none
  | _, _ => none) := id rfl
@[simp] theorem opAdd_ap (g : G) (r1 : R) (r2 : R) : opAdd g r1 r2 = (match r1, r2 with
  | .d (.int i), .d (.int j) => some (.d (.int (i + j)))
  | .d (.tuple xs), .d (.tuple ys) => if xs.length + ys.length ≤ 100000 then some (.d (.tuple (xs ++ ys))) else none
  | r1, r2 => (cat2 g r1 r2).map fun l => .d (.list l)) := id rfl
@[simp] theorem opEq_ap (g : G) (r1 : R) (r2 : R) : opEq g r1 r2 = (match datOf g r1, datOf g r2 with
  | some x, some y => if SeqAt.shaped x && SeqAt.shaped y then some (.d (.bool (PyData.eqv x y))) else none
  | _, _ => none) := id rfl
@[simp] theorem opNe_ap (g : G) (r1 : R) (r2 : R) : opNe g r1 r2 = (match datOf g r1, datOf g r2 with
  | some x, some y => if SeqAt.shaped x && SeqAt.shaped y then some (.d (.bool (!PyData.eqv x y))) else none
  | _, _ => none) := id rfl
@[simp] theorem opIsN_ap (u0 : G) (r1 : R) (r2 : R) : opIsN u0 r1 r2 = (match r2 with
  | .d .none => some (.d (.bool (isNR r1)))
  | _ => none) := id rfl
@[simp] theorem opNotN_ap (u0 : G) (r1 : R) (r2 : R) : opNotN u0 r1 r2 = (match r2 with
  | .d .none => some (.d (.bool (!isNR r1)))
  | _ => none) := id rfl
@[simp] theorem opIx_ap (g : G) (r1 : R) (r2 : R) : opIx g r1 r2 = (match r2 with
  | .d key => match dictAt g r1 with
    | some ct => match dGet ct key with
      | some (some x) => some (.d x)
      | _ => none
    | none => match key with
      | .int i => match seqOf g r1 with
        | some (_, ds) => (atI ds i).map .d
        | none => none
      | _ => none
  | _ => none) := id rfl
@[simp] theorem opIn_ap (g : G) (r1 : R) (r2 : R) : opIn g r1 r2 = ((inB g r1 r2).map fun b => .d (.bool b)) := id rfl
@[simp] theorem opNotIn_ap (g : G) (r1 : R) (r2 : R) : opNotIn g r1 r2 = ((inB g r1 r2).map fun b => .d (.bool (!b))) := id rfl
@[simp] theorem fVar_ap (i : Nat) (g : G) : fVar i g = (match g.sl[i]? with
  | some (some r) => .ok r g
  | _ => .no) := id rfl
@[simp] theorem fC_ap (x : PyData) (g : G) : fC x g = (.ok (.d x) g) := id rfl
@[simp] theorem fOp_ap (op : Op2) (f1 f2 : FE) (g : G) : fOp op f1 f2 g = ((f1 g).bind fun r1 g1 => (f2 g1).bind fun r2 g2 => ofO (op g2 r1 r2) g2) := id rfl
@[simp] theorem fNeg_ap (f : FE) (g : G) : fNeg f g = ((f g).bind fun r g1 => match r with
  | .d (.int i) => .ok (.d (.int (-i))) g1
  | _ => .no) := id rfl
@[simp] theorem fAnd_ap (f1 f2 : FE) (g : G) : fAnd f1 f2 g = ((f1 g).bind fun r g1 => match r with
  | .d (.bool c) => if c = true then f2 g1 else .ok (.d (.bool false)) g1
  | _ => .no) := id rfl
@[simp] theorem fOr_ap (f1 f2 : FE) (g : G) : fOr f1 f2 g = ((f1 g).bind fun r g1 => match r with
  | .d (.bool c) => if c = true then .ok (.d (.bool true)) g1 else f2 g1
  | _ => .no) := id rfl
@[simp] theorem fNot_ap (f : FE) (g : G) : fNot f g = ((f g).bind fun r g1 => match r with
  | .d (.bool c) => .ok (.d (.bool (!c))) g1
  | _ => .no) := id rfl
@[simp] theorem fTst_ap (f : FE) (g : G) : fTst f g = ((f g).bind fun r g1 => match r with
  | .d (.bool c) => .ok c g1
  | _ => .no) := id rfl
@[simp] theorem fAndT_ap (t u : FT) (g : G) : fAndT t u g = ((t g).bind fun c g1 => if c = true then u g1 else .ok false g1) := id rfl
@[simp] theorem fOrT_ap (t u : FT) (g : G) : fOrT t u g = ((t g).bind fun c g1 => if c = true then .ok true g1 else u g1) := id rfl
@[simp] theorem fNotT_ap (t : FT) (g : G) : fNotT t g = ((t g).bind fun c g1 => .ok (!c) g1) := id rfl
@[simp] theorem fYes_ap (g : G) : fYes g = (.ok true g) := id rfl
@[simp] theorem fIf_ap (t : FT) (a b : FE) (g : G) : fIf t a b g = ((t g).bind fun c g1 => if c = true then a g1 else b g1) := id rfl
@[simp] theorem fChain_ap (o1 o2 : Op2) (fa fb fc : FE) (g : G) : fChain o1 o2 fa fb fc g = ((fa g).bind fun r1 g1 => (fb g1).bind fun r2 g2 => match o1 g2 r1 r2 with
  | some (.d (.bool c)) => if c = true then (fc g2).bind fun r4 g4 => ofO (o2 g4 r2 r4) g4 else .ok (.d (.bool false)) g2
  | _ => .no) := id rfl
@[simp] theorem fNil_ap (g : G) : fNil g = (.ok [] g) := id rfl
@[simp] theorem fCons_ap (f : FE) (fs : FAr) (g : G) : fCons f fs g = ((f g).bind fun r g1 => (fs g1).bind fun rs g2 => .ok (r :: rs) g2) := id rfl
@[simp] theorem fTup_ap (fs : FAr) (g : G) : fTup fs g = ((fs g).bind fun rs g1 => match asData rs with
  | some ds => if ds.length ≤ 100000 then .ok (.d (.tuple ds)) g1 else .no
  | none => .no) := id rfl
@[simp] theorem fLst_ap (fs : FAr) (g : G) : fLst fs g = ((fs g).bind fun rs g1 => match asData rs with
  | some ds => if ds.length ≤ 100000 then .ok (.d (.list ds)) g1 else .no
  | none => .no) := id rfl
@[simp] theorem fLstO_ap (fs : FAr) (g : G) : fLstO fs g = ((fs g).bind fun rs g1 => match asData rs with
  | some ds => if ds.length ≤ 100000 then newO (.lst ds) g1 else .no
  | none => .no) := id rfl
@[simp] theorem fDict0_ap (g : G) : fDict0 g = (newO (.dK []) g) := id rfl
@[simp] theorem fDict0T_ap (g : G) : fDict0T g = (newO (.dT []) g) := id rfl
@[simp] theorem fNoP_ap (g : G) : fNoP g = (.ok none g) := id rfl
@[simp] theorem fPart_ap (f : FE) (g : G) : fPart f g = ((f g).bind fun r g1 => match r with
  | .d (.int i) => .ok (some i) g1
  | _ => .no) := id rfl
@[simp] theorem fSl_ap (f : FE) (fl fh : FO) (g : G) : fSl f fl fh g = ((f g).bind fun r g1 => (fl g1).bind fun lo g2 => (fh g2).bind fun hi g3 => match seqOf g3 r with
  | some (t, ds) => .ok (slR r t (cut ds lo hi)) g3
  | none => .no) := id rfl
@[simp] theorem slRd_ap (x : PyData) (t : Bool) (c : List PyData) : slR (.d x) t c = .d (if t then .tuple c else .list c) := rfl
@[simp] theorem slRo_ap (x : Nat) (t : Bool) (c : List PyData) : slR (.o x) t c = .d (if t then .tuple c else .list c) := rfl
@[simp] theorem slRs_ap (x : List Int) (t : Bool) (c : List PyData) : slR (.s x) t c = .d (if t then .tuple c else .list c) := rfl
@[simp] theorem slRu_ap (nd t : Bool) (x c : List PyData) : slR (.u nd x) t c = .u false c := rfl
@[simp] theorem tupRd_ap (x : PyData) (c : List PyData) : tupR (.d x) c = .d (.tuple c) := rfl
@[simp] theorem tupRo_ap (x : Nat) (c : List PyData) : tupR (.o x) c = .d (.tuple c) := rfl
@[simp] theorem tupRs_ap (x : List Int) (c : List PyData) : tupR (.s x) c = .d (.tuple c) := rfl
@[simp] theorem tupRu_ap (nd : Bool) (x c : List PyData) : tupR (.u nd x) c = .u nd x := rfl
@[simp] theorem fRev_ap (f : FE) (g : G) : fRev f g = ((f g).bind fun r g1 => match seqOf g1 r with
  | some (t, ds) => .ok (.d (if t then .tuple ds.reverse else .list ds.reverse)) g1
  | none => .no) := id rfl
@[simp] theorem fCl_ap (c : Cl) (fs : FAr) (g : G) : fCl c fs g = ((fs g).bind fun rs g1 => ofO (c g1 rs) g1) := id rfl
@[simp] theorem clLen_ap (g : G) (rs : List R) : clLen g rs = (match rs with
  | [r] => match seqOf g r with
    | some (_, ds) => some (.d (.int ds.length))
    | none => none
  | _ => none) := id rfl
@[simp] theorem clAbs_ap (u0 : G) (rs : List R) : clAbs u0 rs = (match rs with
  | [.d (.int i)] => some (.d (.int (if i < 0 then -i else i)))
  | _ => none) := id rfl
@[simp] theorem clMax_ap (u0 : G) (rs : List R) : clMax u0 rs = (match rs with
  | [.d (.int i), .d (.int j)] => some (.d (.int (if j > i then j else i)))
  | _ => none) := id rfl
@[simp] theorem clMin_ap (u0 : G) (rs : List R) : clMin u0 rs = (match rs with
  | [.d (.int i), .d (.int j)] => some (.d (.int (if j < i then j else i)))
  | _ => none) := id rfl
@[simp] theorem clInt_ap (u0 : G) (rs : List R) : clInt u0 rs = (match rs with
  | [.d (.bool b)] => some (.d (.int (if b then 1 else 0)))
  | _ => none) := id rfl
@[simp] theorem clList_ap (g : G) (rs : List R) : clList g rs = (match rs with
  | [r] => match seqOf g r with
    | some (_, ds) => some (.d (.list ds))
    | none => none
  | _ => none) := id rfl
@[simp] theorem clTuple_ap (g : G) (rs : List R) : clTuple g rs = (match rs with
  | [r] => match seqOf g r with
    | some (_, ds) => some (tupR r ds)
    | none => none
  | _ => none) := id rfl
@[simp] theorem clAll_ap (g : G) (rs : List R) : clAll g rs = (match rs with
  | [r] => match seqOf g r with
    | some (false, ds) => (asBools ds).map fun bs => .d (.bool (bs.all id))
    | _ => none
  | _ => none) := id rfl
@[simp] theorem clAny_ap (g : G) (rs : List R) : clAny g rs = (match rs with
  | [r] => match seqOf g r with
    | some (false, ds) => (asBools ds).map fun bs => .d (.bool (bs.any id))
    | _ => none
  | _ => none) := id rfl
@[simp] theorem clSum_ap (g : G) (rs : List R) : clSum g rs = (match rs with
  | [r] => match seqOf g r with
    | some (false, ds) => (asInts ds).map fun bs => .d (.int bs.sum)
    | _ => none
  | _ => none) := id rfl
@[simp] theorem clSorted_ap (g : G) (rs : List R) : clSorted g rs = (match rs with
  | [r] => match dictAt g r with
    | some (.dK kvs) => match asKeys kvs with
      | some ks => if ks.length < 64 then some (.d (.list ((srt ks).map .int))) else none
      | none => none
    | some _ => none
    | none => match seqOf g r with
      | some (_, ds) => (asInts ds).map fun ns => .d (.list ((srt ns).map .int))
      | none => none
  | _ => none) := id rfl
@[simp] theorem fListO_ap (fs : FAr) (g : G) : fListO fs g = ((fs g).bind fun rs g1 => match rs with
  | [r] => match seqOf g1 r with
    | some (_, ds) => newO (.lst ds) g1
    | none => .no
  | _ => .no) := id rfl
@[simp] theorem fIsi_ap (T : String) (f : FE) (g : G) : fIsi T f g = ((f g).bind fun r g1 => match tyOf g1 r with
  | some t => .ok (.d (.bool (isaB t T))) g1
  | none => .no) := id rfl
@[simp] theorem fIsi2_ap (T U : String) (f : FE) (g : G) : fIsi2 T U f g = ((f g).bind fun r g1 => match tyOf g1 r with
  | some t => .ok (.d (.bool (isaB t T || isaB t U))) g1
  | none => .no) := id rfl
@[simp] theorem fMt_ap (m : Mt) (f : FE) (fs : FAr) (g : G) : fMt m f fs g = ((f g).bind fun r g1 => if isLst g1 r then (fs g1).bind fun rs g2 => ofM (m g2 r rs) else .no) := id rfl
@[simp] theorem mtAppend_ap (g : G) (r : R) (rs : List R) : mtAppend g r rs = (match rs with
  | [.d x] => onL (fun ds => if ds.length < 100000 then some (.d .none, ds ++ [x]) else none) g r
  | _ => none) := id rfl
@[simp] theorem mtInsert_ap (g : G) (r : R) (rs : List R) : mtInsert g r rs = (match rs with
  | [.d (.int i), .d x] => onL (fun ds => if ds.length < 100000 ∧ 0 ≤ i ∧ i < 2 ^ 63 then some (.d .none, ds.take i.toNat ++ [x] ++ ds.drop i.toNat) else none) g r
  | _ => none) := id rfl
@[simp] theorem mtPop_ap (g : G) (r : R) (rs : List R) : mtPop g r rs = (match rs with
  | [.d (.int i)] => onL (popL i) g r
  | _ => none) := id rfl
@[simp] theorem mtExtend_ap (g : G) (r : R) (rs : List R) : mtExtend g r rs = (match rs with
  | [r1] => match seqOf g r1 with
    | some (false, es) => if isMade r1 then onL (fun ds => if ds.length + es.length ≤ 100000 then some (.d .none, ds ++ es) else none) g r else none
    | _ => none
  | _ => none) := id rfl
@[simp] theorem mtIndex_ap (g : G) (r : R) (rs : List R) : mtIndex g r rs = (match rs with
  | [r1] => match datOf g r, datOf g r1 with
    | some (.list ds), some d => if SeqAt.shaped (.list ds) && SeqAt.shaped d then (ds.findIdx? (fun z => PyData.eqv z d)).map fun n => (.d (.int (n : Nat)), g) else none
    | _, _ => none
  | _ => none) := id rfl
@[simp] theorem tN_ap (i : Nat) (r : R) (g : G) : tN i r g = (.ok () { g with sl := g.sl.set i (some r) }) := id rfl
@[simp] theorem tNil_ap (rs : List R) (g : G) : tNil rs g = (match rs with
  | [] => .ok () g
  | _ => .no) := id rfl
@[simp] theorem tCons_ap (t : FG) (u : FGs) (rs : List R) (g : G) : tCons t u rs g = (match rs with
  | r :: rs => (t r g).bind fun _ g1 => u rs g1
  | [] => .no) := id rfl
@[simp] theorem tTup_ap (n : Nat) (t : FGs) (r : R) (g : G) : tTup n t r g = (match r with
  | .d (.tuple ds) => if ds.length = n then t (ds.map .d) g else .no
  | _ => .no) := id rfl
@[simp] theorem tSub_ap (fo fi : FE) (r : R) (g : G) : tSub fo fi r g = ((fo g).bind fun r1 g1 => (fi g1).bind fun r2 g2 => match r, r2 with
  | .d x, .d (.int i) => match onL (fun ds => (ixN ds.length i).map fun n => (.d .none, ds.set n x)) g2 r1 with
    | some (_, g3) => .ok () g3
    | none => .no
  | _, _ => .no) := id rfl
@[simp] theorem sNx_ap (g : G) : sNx g = (.ok .nx g) := id rfl
@[simp] theorem sCt_ap (g : G) : sCt g = (.ok .ct g) := id rfl
@[simp] theorem sBk_ap (g : G) : sBk g = (.ok .bk g) := id rfl
@[simp] theorem sSq_ap (a b : FS) (g : G) : sSq a b g = ((a g).bind fun f g1 => match f with
  | .nx => b g1
  | f => .ok f g1) := id rfl
@[simp] theorem sEx_ap (f : FE) (g : G) : sEx f g = ((f g).bind fun _ g1 => .ok .nx g1) := id rfl
@[simp] theorem sRt_ap (f : FE) (g : G) : sRt f g = ((f g).bind fun r g1 => .ok (.rt r) g1) := id rfl
@[simp] theorem sRtN_ap (g : G) : sRtN g = (.ok (.rt (.d .none)) g) := id rfl
@[simp] theorem sIte_ap (t : FT) (a b : FS) (g : G) : sIte t a b g = ((t g).bind fun c g1 => if c = true then a g1 else b g1) := id rfl
@[simp] theorem sSet_ap (f : FE) (t : FG) (g : G) : sSet f t g = ((f g).bind fun r g1 => (t r g1).bind fun _ g2 => .ok .nx g2) := id rfl
@[simp] theorem sP2_ap (i j : Nat) (fs : FAr) (g : G) : sP2 i j fs g = ((fs g).bind fun rs g1 => match rs with
  | [r1, r2] => .ok .nx { g1 with sl := (g1.sl.set i (some r1)).set j (some r2) }
  | _ => .no) := id rfl
@[simp] theorem sP3_ap (i j l : Nat) (fs : FAr) (g : G) : sP3 i j l fs g = ((fs g).bind fun rs g1 => match rs with
  | [r1, r2, r3] => .ok .nx { g1 with sl := ((g1.sl.set i (some r1)).set j (some r2)).set l (some r3) }
  | _ => .no) := id rfl
@[simp] theorem sAg_ap (i : Nat) (o : Int → Int → Option Int) (f : FE) (g : G) : sAg i o f g = (match g.sl[i]? with
  | some (some (.d (.int n))) => (f g).bind fun r g1 => match r with
    | .d (.int m) => match o n m with
      | some q => .ok .nx { g1 with sl := g1.sl.set i (some (.d (.int q))) }
      | none => .no
    | _ => .no
  | _ => .no) := id rfl
@[simp] theorem sPut_ap (fd fi fv : FE) (g : G) : sPut fd fi fv g = ((fv g).bind fun rv g1 => (fd g1).bind fun rd g2 => (fi g2).bind fun ri g3 => match rv, rd, ri with
  | .d x, .o j, .d key => match g3.ce[j]? with
    | some ct => match dPut ct key x with
      | some ct' => .ok .nx (putC g3 j ct')
      | none => .no
    | none => .no
  | _, _, _ => .no) := id rfl
@[simp] theorem sNo_ap (u0 : G) : sNo u0 = (.no) := id rfl
@[simp] theorem whSt_ap (t : FT) (u w : FS) (g : G) : whSt t u w g = ((t g).bind fun c g1 => if c = true then (u g1).bind fun f g2 => match f with
  | .nx => w g2
  | .ct => w g2
  | .bk => .ok .nx g2
  | .rt r => .ok (.rt r) g2 else .ok .nx g1) := id rfl
@[simp] theorem sFr_ap (i : FI) (t : FG) (u : FS) (g : G) : sFr i t u g = ((i g).bind fun ds g1 => forGo t u ds g1) := id rfl
@[simp] theorem fLc_ap (i : FI) (t : FG) (c : FT) (f : FE) (ws : List Nat) (g : G) : fLc i t c f ws g = ((i g).bind fun ds g1 => (lcGo t c f g1.sl ws ds [] g1.ce).bind fun acc g2 => .ok (.d (.list acc)) g2) := id rfl
@[simp] theorem fLcO_ap (i : FI) (t : FG) (c : FT) (f : FE) (ws : List Nat) (g : G) : fLcO i t c f ws g = ((i g).bind fun ds g1 => (lcGo t c f g1.sl ws ds [] g1.ce).bind fun acc g2 => newO (.lst acc) g2) := id rfl
@[simp] theorem iSeq_ap (f : FE) (g : G) : iSeq f g = ((f g).bind fun r g1 => if noO r then match seqOf g1 r with
  | some (_, ds) => .ok ds g1
  | none => .no else .no) := id rfl
@[simp] theorem iRg1_ap (fs : FAr) (g : G) : iRg1 fs g = ((fs g).bind fun rs g1 => match rs with
  | [.d (.int j)] => if rOk j then .ok (rng 0 j.toNat) g1 else .no
  | _ => .no) := id rfl
@[simp] theorem iRg2_ap (fs : FAr) (g : G) : iRg2 fs g = ((fs g).bind fun rs g1 => match rs with
  | [.d (.int i), .d (.int j)] => if rOk i && rOk j then .ok (rng i (j - i).toNat) g1 else .no
  | _ => .no) := id rfl
@[simp] theorem iEn_ap (fs : FAr) (g : G) : iEn fs g = ((fs g).bind fun rs g1 => match rs with
  | [r] => if noO r then match seqOf g1 r with
    | some (_, ds) => .ok (enumD ds) g1
    | none => .no else .no
  | _ => .no) := id rfl
@[simp] theorem iZ2_ap (fs : FAr) (g : G) : iZ2 fs g = ((fs g).bind fun rs g1 => match rs with
  | [.d x, .d y] => match seqD x, seqD y with
    | some xs, some ys => if ys.length = xs.length then .ok (zip2 xs ys) g1 else .no
    | _, _ => .no
  | _ => .no) := id rfl
@[simp] theorem iZ3_ap (fs : FAr) (g : G) : iZ3 fs g = ((fs g).bind fun rs g1 => match rs with
  | [.d x, .d y, .d z] => match seqD x, seqD y, seqD z with
    | some xs, some ys, some zs => if ys.length = xs.length ∧ zs.length = xs.length then .ok (zip3 xs ys zs) g1 else .no
    | _, _, _ => .no
  | _ => .no) := id rfl
@[simp] theorem clLz2_ap (g : G) (rs : List R) : clLz2 g rs = (match rs with
  | [r1, r2] => match seqOf g r1, seqOf g r2 with
    | some (_, xs), some (_, ys) => if ys.length = xs.length then some (.d (.list (zip2 xs ys))) else none
    | _, _ => none
  | _ => none) := id rfl
@[simp] theorem clLz3_ap (g : G) (rs : List R) : clLz3 g rs = (match rs with
  | [r1, r2, r3] => match seqOf g r1, seqOf g r2, seqOf g r3 with
    | some (_, xs), some (_, ys), some (_, zs) => if ys.length = xs.length ∧ zs.length = xs.length then some (.d (.list (zip3 xs ys zs))) else none
    | _, _, _ => none
  | _ => none) := id rfl
@[simp] theorem fCall_ap (f : Fn) (own : Bool) (fs : FAr) (g : G) : fCall f own fs g = ((fs g).bind fun rs g1 => callF f own rs g1) := id rfl
@[simp] theorem mkFn_ap (n : Nat) (f : FS) (rs : List R) (bx : List Ct) : mkFn n f rs bx = (match f (g0 n rs bx) with
  | .ok .nx g => finF bx.length (.d .none) g
  | .ok (.rt r) g => finF bx.length r g
  | .ex n g => .ex n (g.ce.take bx.length)
  | _ => .no) := id rfl
end DL
set_option Elab.async false
set_option linter.all false
set_option maxRecDepth 100000
set_option maxHeartbeats 4000000
set_option autoImplicit false
namespace DL
open PySem PySem.Spec PyProof.Rows L2
abbrev zD (ns : List Int) : List PyData := ns.map PyData.int
def pD (p : Int × Int) : PyData := .tuple [.int p.1, .int p.2]
abbrev psD (ps : List (Int × Int)) : List PyData := ps.map pD
def Sq (x : PyData) (ds : List PyData) : Prop := x = .list ds ∨ x = .tuple ds
theorem Sq.seq {x : PyData} {ds : List PyData} (h : Sq x ds) (g : G) : ∃ t, seqOf g (.d x) = some (t, ds) := by
  rcases h with rfl | rfl
  · exact ⟨false, rfl⟩
  · exact ⟨true, rfl⟩
theorem sqL {ds : List PyData} : Sq (.list ds) ds := .inl rfl
theorem sqT {ds : List PyData} : Sq (.tuple ds) ds := .inr rfl
/-- no bool, no text, no dict; depth below n -/
def plain : Nat → PyData → Bool
  | _, .none => true
  | _, .int _ => true
  | n + 1, .list ds => ds.all (plain n)
  | n + 1, .tuple ds => ds.all (plain n)
  | _, _ => false
theorem plain_lay : ∀ (n : Nat) (d : PyData), plain n d = true → d.canLay0 = true ∧ d.depth ≤ n + 1
  | _, .none, _ => ⟨rfl, by simp [PyData.depth]⟩
  | _, .int _, _ => ⟨rfl, by simp [PyData.depth]⟩
  | n + 1, .list ds, h => by
    have h : ds.all (plain n) = true := h
    have all : PyData.canLayAll0 ds = true ∧ PyData.depthAll ds ≤ n + 1 := by
      induction ds with
      | nil => exact ⟨rfl, by simp [PyData.depthAll]⟩
      | cons x xs ih =>
        rw [List.all_cons, Bool.and_eq_true] at h
        obtain ⟨a, b⟩ := ih h.2 h.2
        obtain ⟨c, d⟩ := plain_lay n x h.1
        exact ⟨by rw [PyData.canLayAll0, c, a]; rfl, by simp only [PyData.depthAll]; omega⟩
    exact ⟨all.1, by simp only [PyData.depth]; omega⟩
  | n + 1, .tuple ds, h => by
    have h : ds.all (plain n) = true := h
    have all : PyData.canLayAll0 ds = true ∧ PyData.depthAll ds ≤ n + 1 := by
      induction ds with
      | nil => exact ⟨rfl, by simp [PyData.depthAll]⟩
      | cons x xs ih =>
        rw [List.all_cons, Bool.and_eq_true] at h
        obtain ⟨a, b⟩ := ih h.2 h.2
        obtain ⟨c, d⟩ := plain_lay n x h.1
        exact ⟨by rw [PyData.canLayAll0, c, a]; rfl, by simp only [PyData.depthAll]; omega⟩
    exact ⟨all.1, by simp only [PyData.depth]; omega⟩
  | 0, .list _, h => by cases h
  | 0, .tuple _, h => by cases h
  | 0, .bool _, h => by cases h
  | _ + 1, .bool _, h => by cases h
  | 0, .str _, h => by cases h
  | _ + 1, .str _, h => by cases h
  | 0, .dict _, h => by cases h
  | _ + 1, .dict _, h => by cases h
theorem plain_shaped {n : Nat} {d : PyData} (h : plain n d = true) (hn : n < 60) : SeqAt.shaped d = true := by
  obtain ⟨a, b⟩ := plain_lay n d h
  unfold SeqAt.shaped
  rw [a, decide_eq_true (show d.depth ≤ 64 by omega)]
  rfl
mutual
theorem eqv_refl : ∀ (d : PyData), d.canLay0 = true → PyData.eqv d d = true
  | .none, _ => by simp [PyData.eqv]
  | .bool b, _ => by simp [PyData.eqv]
  | .int i, _ => by simp [PyData.eqv]
  | .str s, _ => by simp [PyData.eqv]
  | .list ds, h => by rw [PyData.eqv]; exact eqvAll_refl ds h
  | .tuple ds, h => by rw [PyData.eqv]; exact eqvAll_refl ds h
  | .dict _, h => by cases h
theorem eqvAll_refl : ∀ (ds : List PyData), PyData.canLayAll0 ds = true → PyData.eqvAll ds ds = true
  | [], _ => by simp [PyData.eqvAll]
  | d :: ds, h => by
    rw [PyData.canLayAll0, Bool.and_eq_true] at h
    rw [PyData.eqvAll, eqv_refl d h.1, eqvAll_refl ds h.2]
    rfl
end
theorem eqv_iff : ∀ (n : Nat) (x y : PyData), plain n x = true → plain n y = true → PyData.eqv x y = true → x = y
  | _, .none, y, _, hy, h => by cases y <;> simp_all [PyData.eqv]
  | n, .int i, y, _, hy, h => by
    cases y with
    | int j => simp [PyData.eqv] at h; rw [h]
    | bool b => cases n <;> simp [plain] at hy
    | _ => simp [PyData.eqv] at h
  | n + 1, .list ds, y, hx, hy, h => by
    cases y with
    | list es =>
      have gen : ∀ (ds es : List PyData), ds.all (plain n) = true → es.all (plain n) = true → PyData.eqvAll ds es = true → ds = es := by
        intro ds
        induction ds with
        | nil => intro es _ _ h; cases es with
          | nil => rfl
          | cons _ _ => simp [PyData.eqvAll] at h
        | cons d ds ih => intro es h1 h2 h; cases es with
          | nil => simp [PyData.eqvAll] at h
          | cons e es =>
            rw [List.all_cons, Bool.and_eq_true] at h1 h2
            rw [PyData.eqvAll, Bool.and_eq_true] at h
            rw [eqv_iff n d e h1.1 h2.1 h.1, ih es h1.2 h2.2 h.2]
      rw [PyData.eqv] at h
      rw [gen ds es hx hy h]
    | _ => simp [PyData.eqv] at h
  | n + 1, .tuple ds, y, hx, hy, h => by
    cases y with
    | tuple es =>
      have gen : ∀ (ds es : List PyData), ds.all (plain n) = true → es.all (plain n) = true → PyData.eqvAll ds es = true → ds = es := by
        intro ds
        induction ds with
        | nil => intro es _ _ h; cases es with
          | nil => rfl
          | cons _ _ => simp [PyData.eqvAll] at h
        | cons d ds ih => intro es h1 h2 h; cases es with
          | nil => simp [PyData.eqvAll] at h
          | cons e es =>
            rw [List.all_cons, Bool.and_eq_true] at h1 h2
            rw [PyData.eqvAll, Bool.and_eq_true] at h
            rw [eqv_iff n d e h1.1 h2.1 h.1, ih es h1.2 h2.2 h.2]
      rw [PyData.eqv] at h
      rw [gen ds es hx hy h]
    | _ => simp [PyData.eqv] at h
  | 0, .list _, _, h, _, _ => by cases h
  | 0, .tuple _, _, h, _, _ => by cases h
  | 0, .bool _, _, h, _, _ => by cases h
  | _ + 1, .bool _, _, h, _, _ => by cases h
  | 0, .str _, _, h, _, _ => by cases h
  | _ + 1, .str _, _, h, _, _ => by cases h
  | 0, .dict _, _, h, _, _ => by cases h
  | _ + 1, .dict _, _, h, _, _ => by cases h
theorem eqv_same {n : Nat} {x y : PyData} (hx : plain n x = true) (hy : plain n y = true) : (PyData.eqv x y = true) ↔ x = y := ⟨eqv_iff n x y hx hy, fun e => by
  subst e
  exact eqv_refl x (plain_lay n x hx).1⟩
theorem plain_ints (ns : List Int) (n : Nat) : (zD ns).all (plain n) = true := by
  rw [List.all_eq_true]
  intro x hx
  obtain ⟨i, _, rfl⟩ := List.mem_map.mp hx
  cases n <;> rfl
theorem plain_pairs (ps : List (Int × Int)) (n : Nat) : (psD ps).all (plain (n + 1)) = true := by
  rw [List.all_eq_true]
  intro x hx
  obtain ⟨i, _, rfl⟩ := List.mem_map.mp hx
  show [PyData.int i.1, PyData.int i.2].all (plain n) = true
  exact plain_ints [i.1, i.2] n
theorem zD_inj {a b : List Int} (h : zD a = zD b) : a = b := by
  induction a generalizing b with
  | nil => cases b with
    | nil => rfl
    | cons _ _ => cases h
  | cons x a ih => cases b with
    | nil => cases h
    | cons y b =>
      have h' : PyData.int x :: zD a = PyData.int y :: zD b := h
      injection h' with h1 h2
      injection h1 with h1
      rw [h1, ih h2]
theorem pD_inj {a b : Int × Int} (h : pD a = pD b) : a = b := by
  obtain ⟨a1, a2⟩ := a
  obtain ⟨b1, b2⟩ := b
  unfold pD at h
  injection h with h
  injection h with h1 h2
  injection h1 with h1
  injection h2 with h2 _
  injection h2 with h2
  simp only at h1 h2
  rw [h1, h2]
theorem psD_inj {a b : List (Int × Int)} (h : psD a = psD b) : a = b := by
  induction a generalizing b with
  | nil => cases b with
    | nil => rfl
    | cons _ _ => cases h
  | cons x a ih => cases b with
    | nil => cases h
    | cons y b =>
      have h' : pD x :: psD a = pD y :: psD b := h
      injection h' with h1 h2
      rw [pD_inj h1, ih h2]
theorem eqv_dec {n : Nat} {x y : PyData} {p : Prop} [Decidable p] (hx : plain n x = true) (hy : plain n y = true) (h : x = y ↔ p) : PyData.eqv x y = decide p := by
  rw [Bool.eq_iff_iff, eqv_same hx hy, h, decide_eq_true_eq]
theorem zT_inj {a b : List Int} : PyData.tuple (zD a) = PyData.tuple (zD b) ↔ a = b := ⟨fun h => zD_inj (by injection h), fun h => by rw [h]⟩
theorem zL_inj {a b : List Int} : PyData.list (zD a) = PyData.list (zD b) ↔ a = b := ⟨fun h => zD_inj (by injection h), fun h => by rw [h]⟩
theorem pT_inj {a b : List (Int × Int)} : PyData.tuple (psD a) = PyData.tuple (psD b) ↔ a = b := ⟨fun h => psD_inj (by injection h), fun h => by rw [h]⟩
theorem pL_inj {a b : List (Int × Int)} : PyData.list (psD a) = PyData.list (psD b) ↔ a = b := ⟨fun h => psD_inj (by injection h), fun h => by rw [h]⟩
theorem pD_iff {a b : Int × Int} : pD a = pD b ↔ a = b := ⟨pD_inj, fun h => by rw [h]⟩
@[simp] theorem eqv_zT {a b : List Int} : PyData.eqv (.tuple (zD a)) (.tuple (zD b)) = decide (a = b) := eqv_dec (n := 1) (plain_ints a 0) (plain_ints b 0) zT_inj
@[simp] theorem eqv_zL {a b : List Int} : PyData.eqv (.list (zD a)) (.list (zD b)) = decide (a = b) := eqv_dec (n := 1) (plain_ints a 0) (plain_ints b 0) zL_inj
@[simp] theorem eqv_pT {a b : List (Int × Int)} : PyData.eqv (.tuple (psD a)) (.tuple (psD b)) = decide (a = b) := eqv_dec (n := 2) (plain_pairs a 0) (plain_pairs b 0) pT_inj
@[simp] theorem eqv_pL {a b : List (Int × Int)} : PyData.eqv (.list (psD a)) (.list (psD b)) = decide (a = b) := eqv_dec (n := 2) (plain_pairs a 0) (plain_pairs b 0) pL_inj
@[simp] theorem eqv_pD {a b : Int × Int} : PyData.eqv (pD a) (pD b) = decide (a = b) := eqv_dec (n := 1) (plain_ints [a.1, a.2] 0) (plain_ints [b.1, b.2] 0) pD_iff
@[simp] theorem eqv_int {a b : Int} : PyData.eqv (.int a) (.int b) = decide (a = b) := eqv_dec (n := 1) (x := .int a) (y := .int b) rfl rfl ⟨fun h => by injection h, fun h => by rw [h]⟩
@[simp] theorem shaped_zT {a : List Int} : SeqAt.shaped (.tuple (zD a)) = true := plain_shaped (n := 1) (plain_ints a 0) (by decide)
@[simp] theorem shaped_zL {a : List Int} : SeqAt.shaped (.list (zD a)) = true := plain_shaped (n := 1) (plain_ints a 0) (by decide)
@[simp] theorem shaped_pT {a : List (Int × Int)} : SeqAt.shaped (.tuple (psD a)) = true := plain_shaped (n := 2) (plain_pairs a 0) (by decide)
@[simp] theorem shaped_pL {a : List (Int × Int)} : SeqAt.shaped (.list (psD a)) = true := plain_shaped (n := 2) (plain_pairs a 0) (by decide)
@[simp] theorem shaped_pD {a : Int × Int} : SeqAt.shaped (pD a) = true := plain_shaped (n := 1) (plain_ints [a.1, a.2] 0) (by decide)
@[simp] theorem shaped_int {a : Int} : SeqAt.shaped (.int a) = true := plain_shaped (n := 1) (d := .int a) rfl (by decide)
def lcSt (t : FG) (c : FT) (f : FE) (sl : List (Option R)) (ws : List Nat) (x : PyData) (ce : List Ct) : Option (Option PyData × List Ct) := match t (.d x) ⟨wipeG sl ws, ce⟩ with
  | .ok _ g2 => match c g2 with
    | .ok true g3 => match f g3 with
      | .ok (.d d) g4 => some (some d, g4.ce)
      | _ => none
    | .ok false g3 => some (none, g3.ce)
    | _ => none
  | _ => none
theorem lcGo_cons {t : FG} {c : FT} {f : FE} {sl : List (Option R)} {ws : List Nat} {x : PyData} {ds acc : List PyData} {ce ce' : List Ct} {o : Option PyData} (hl : acc.length < 100000) (h : lcSt t c f sl ws x ce = some (o, ce')) :
    lcGo t c f sl ws (x :: ds) acc ce = lcGo t c f sl ws ds (acc ++ o.toList) ce' := by
  unfold lcSt at h
  rw [lcGo, if_pos hl]
  revert h
  cases t (.d x) ⟨wipeG sl ws, ce⟩ with
  | ok a g2 =>
    dsimp only
    cases c g2 with
    | ok bb g3 =>
      cases bb with
      | true =>
        dsimp only
        cases f g3 with
        | ok r g4 =>
          cases r with
          | d d => intro h; cases h; rfl
          | _ => intro h; cases h
        | _ => intro h; cases h
      | false => intro h; cases h; exact congrArg (fun z => lcGo t c f sl ws ds z _) (List.append_nil _).symm
    | _ => intro h; cases h
  | _ => intro h; cases h
/-- a comprehension that changes no cell -/
theorem lcGo_pure {α : Type} {emb : α → PyData} {t : FG} {c : FT} {f : FE} {sl : List (Option R)} {ws : List Nat} {ce : List Ct} (p : α → Bool) (φ : α → PyData) : ∀ (xs : List α) (acc : List PyData), acc.length + xs.length ≤ 100000 →
    (∀ x ∈ xs, lcSt t c f sl ws (emb x) ce = some (if p x then some (φ x) else none, ce)) → lcGo t c f sl ws (xs.map emb) acc ce = .ok (acc ++ (xs.filter p).map φ) ⟨sl, ce⟩
  | [], acc, _, _ => by rw [List.map_nil, lcGo]; simp
  | x :: xs, acc, hl, h => by
    rw [List.length_cons] at hl
    have hx := h x List.mem_cons_self
    rw [List.map_cons, lcGo_cons (by omega) hx, lcGo_pure p φ xs _ ?_ fun y hy => h y (List.mem_cons_of_mem _ hy)]
    · by_cases q : p x = true
      · rw [List.filter_cons_of_pos q]
        simp [q]
      · rw [List.filter_cons_of_neg q]
        simp [q]
    · rw [List.length_append]
      by_cases q : p x = true
      · simp [q]; omega
      · simp [q]; omega
theorem lcGo_map {α : Type} {emb : α → PyData} {t : FG} {f : FE} {c : FT} {sl : List (Option R)} {ws : List Nat} {ce : List Ct} (φ : α → PyData) {xs : List α} (hl : xs.length ≤ 100000)
    (h : ∀ x ∈ xs, lcSt t c f sl ws (emb x) ce = some (some (φ x), ce)) : lcGo t c f sl ws (xs.map emb) [] ce = .ok (xs.map φ) ⟨sl, ce⟩ := by
  have z := lcGo_pure (emb := emb) (t := t) (c := c) (f := f) (sl := sl) (ws := ws) (ce := ce) (fun _ => true) φ xs [] (by simpa using hl) (fun x hx => by rw [h x hx]; rfl)
  rw [z, List.nil_append, List.filter_eq_self.mpr (fun _ _ => rfl)]
/-- a comprehension with an invariant -/
theorem lcGo_inv {α : Type} {emb : α → PyData} {t : FG} {c : FT} {f : FE} {sl : List (Option R)} {ws : List Nat} (I : Nat → List PyData → List Ct → Prop) {xs : List α} {ce : List Ct} (h0 : I 0 [] ce) (hlen : ∀ i acc ce, I i acc ce → i < xs.length → acc.length < 100000)
    (hs : ∀ i x acc ce, xs[i]? = some x → I i acc ce → ∃ o ce', lcSt t c f sl ws (emb x) ce = some (o, ce') ∧ I (i + 1) (acc ++ o.toList) ce') : ∃ acc ce', lcGo t c f sl ws (xs.map emb) [] ce = .ok acc ⟨sl, ce'⟩ ∧ I xs.length acc ce' := by
  have gen : ∀ (n i : Nat) (acc : List PyData) (ce : List Ct), n + i = xs.length → I i acc ce → ∃ acc' ce', lcGo t c f sl ws ((xs.drop i).map emb) acc ce = .ok acc' ⟨sl, ce'⟩ ∧ I xs.length acc' ce' := by
    intro n
    induction n with
    | zero =>
      intro i acc ce hi hI
      rw [List.drop_of_length_le (by omega), List.map_nil, lcGo]
      exact ⟨acc, ce, rfl, by rw [← hi, Nat.zero_add]; exact hI⟩
    | succ n ih =>
      intro i acc ce hi hI
      have hl : i < xs.length := by omega
      rw [List.drop_eq_getElem_cons hl, List.map_cons]
      obtain ⟨o, ce', h1, h2⟩ := hs i xs[i] acc ce (List.getElem?_eq_getElem hl) hI
      rw [lcGo_cons (hlen i acc ce hI hl) h1]
      exact ih (i + 1) _ ce' (by omega) h2
  exact gen xs.length 0 [] ce (by omega) h0
def forSt (t : FG) (u : FS) (x : PyData) : FS := fun g => (t (.d x) g).bind fun _ g1 => u g1
@[simp] theorem forSt_ap (t : FG) (u : FS) (x : PyData) (g : G) : forSt t u x g = (t (.d x) g).bind fun _ g1 => u g1 := id rfl
theorem forGo_cons {t : FG} {u : FS} {x : PyData} {ds : List PyData} {g : G} : forGo t u (x :: ds) g = (forSt t u x g).bind fun f g2 => match f with
    | .nx => forGo t u ds g2
    | .ct => forGo t u ds g2
    | .bk => .ok .nx g2
    | .rt r => .ok (.rt r) g2 := by
  show ((t (.d x) g).bind fun _ g1 => (u g1).bind _) = ((t (.d x) g).bind fun _ g1 => u g1).bind _
  cases t (.d x) g <;> rfl
@[simp] theorem forGo_nil {t : FG} {u : FS} {g : G} : forGo t u [] g = .ok .nx g := rfl
/-- a loop with an invariant -/
theorem forGo_inv {α : Type} {emb : α → PyData} {t : FG} {u : FS} {xs : List α} {g : G} (I : Nat → G → Prop) (h0 : I 0 g) (hs : ∀ i x g, xs[i]? = some x → I i g → ∃ g2, (forSt t u (emb x) g = .ok .nx g2 ∨ forSt t u (emb x) g = .ok .ct g2) ∧ I (i + 1) g2) : ∃ g', forGo t u (xs.map emb) g = .ok .nx g' ∧ I xs.length g' := by
  have gen : ∀ (n i : Nat) (g : G), n + i = xs.length → I i g → ∃ g', forGo t u ((xs.drop i).map emb) g = .ok .nx g' ∧ I xs.length g' := by
    intro n
    induction n with
    | zero =>
      intro i g hi hI
      rw [List.drop_of_length_le (by omega), List.map_nil, forGo_nil]
      exact ⟨g, rfl, by rw [← hi, Nat.zero_add]; exact hI⟩
    | succ n ih =>
      intro i g hi hI
      have hl : i < xs.length := by omega
      rw [List.drop_eq_getElem_cons hl, List.map_cons, forGo_cons]
      obtain ⟨g2, h1, h2⟩ := hs i xs[i] g (List.getElem?_eq_getElem hl) hI
      rcases h1 with h1 | h1
      · rw [h1]
        exact ih (i + 1) g2 (by omega) h2
      · rw [h1]
        exact ih (i + 1) g2 (by omega) h2
  exact gen xs.length 0 g (by omega) h0
/-- a while with an invariant and a measure -/
theorem sWh_inv {t : FT} {u : FS} {g : G} (I : Nat → G → Prop) (J : G → Prop) (n : Nat) (h0 : I n g) (hs : ∀ n g, I n g → (∃ g1, t g = .ok false g1 ∧ J g1) ∨ ∃ g1 g2 m, t g = .ok true g1 ∧ (u g1 = .ok .nx g2 ∨ u g1 = .ok .ct g2) ∧ m < n ∧ I m g2) : ∃ g', sWh t u g = .ok .nx g' ∧ J g' := by
  induction n using Nat.strongRecOn generalizing g with
  | _ n ih =>
    rw [sWh_step, whSt_ap]
    rcases hs n g h0 with ⟨g1, h1, h2⟩ | ⟨g1, g2, m, h1, h2, h3, h4⟩
    · rw [h1]
      exact ⟨g1, rfl, h2⟩
    · rw [h1]
      obtain ⟨g', e, hj⟩ := ih m h3 h4
      refine ⟨g', ?_, hj⟩
      rcases h2 with h2 | h2
      · simp only [bind_ok, if_true, h2, e]
      · simp only [bind_ok, if_true, h2, e]
end DL
set_option Elab.async false
set_option linter.all false
set_option maxRecDepth 100000
set_option autoImplicit false
namespace DL
def restR (ns : List Int) (h : Int) : List Int := ns.filter (fun n => decide (h ≤ n))
def codeN (ns : List Int) (h : Int) : Nat := (restR ns h).idxOf h
def codeI (ns : List Int) (h : Int) : Int := (codeN ns h : Nat)
def codesM (ns : List Int) : List Int := (srt ns).map (codeI ns)
def insP (acc : List Int) (p : Int × Int) : List Int := acc.take p.2.toNat ++ [p.1] ++ acc.drop p.2.toNat
def inRn (i : Int) (p : Int × Int) : Bool := if decide (p.1 ≤ i) = true then decide (i ≤ p.2) else false
def runA (ps : List (Int × Int)) (i : Int) : Int × Int := ((ps.filter (inRn i)).head?).getD (0, 0)
def fstR (ps : List (Int × Int)) (pl : Nat) : Int := (ps.getD (pl - 1) (0, 0)).1
def lstR (ps : List (Int × Int)) (pl : Nat) : Int := (ps.getD (min (ps.length - 1) (pl + 1)) (0, 0)).2 - 1
def shiftR (p : Int × Int) : Int × Int := (p.1 - 1, p.2 - 1)
def nextP (ps : List (Int × Int)) (pl : Nat) : List (Int × Int) :=
  ps.take (pl - 1) ++ (if fstR ps pl ≤ lstR ps pl then [(fstR ps pl, lstR ps pl)] else []) ++ (ps.drop (pl + 2)).map shiftR
def nextR (ps : List (Int × Int)) (i : Int) : List (Int × Int) := nextP ps (ps.idxOf (runA ps i))
def goR : List (Int × Int) → List Int → List (Int × Int)
  | _, [] => []
  | here, c :: cs => runA here c :: goR (nextR here c) cs
def iniR (n : Nat) : List (Int × Int) := (List.range n).map fun (i : Nat) => ((i : Int), (i : Int))
def runsC (cs : List Int) : List (Int × Int) := goR (iniR cs.length) cs
def runsM (ns : List Int) : List (Int × Int) := runsC (codesM ns)
theorem srt_len (ns : List Int) : (srt ns).length = ns.length := (srt_perm ns).length_eq
theorem srt_mem {ns : List Int} {h : Int} : h ∈ srt ns ↔ h ∈ ns := (srt_perm ns).mem_iff
theorem srt_congr {a b : List Int} (h : a.Perm b) : srt a = srt b := sorted_uniq ((srt_perm a).trans (h.trans (srt_perm b).symm)) (srt_sorted a) (srt_sorted b)
theorem srt_lt {ns : List Int} (h : ns.Nodup) : (srt ns).Pairwise (· < ·) := by
  have h1 := srt_sorted ns
  have h2 : (srt ns).Nodup := (srt_perm ns).nodup_iff.mpr h
  exact (h1.and h2).imp fun ⟨a, b⟩ => by omega
theorem nodup_of_lt {hs : List Int} (h : hs.Pairwise (· < ·)) : hs.Nodup := h.imp fun h => by omega
theorem restR_all {ns : List Int} {h : Int} (H : ∀ n ∈ ns, h ≤ n) : restR ns h = ns := List.filter_eq_self.mpr fun n hn => decide_eq_true (H n hn)
theorem restR_erase {ns : List Int} {h h' : Int} (hlt : h < h') : restR (ns.erase h) h' = restR ns h' := by
  unfold restR
  induction ns with
  | nil => rfl
  | cons a t ih =>
    by_cases e : a = h
    · subst e
      rw [List.erase_cons_head, List.filter_cons, if_neg (by simp; omega)]
    · rw [List.erase_cons_tail (by simpa using e), List.filter_cons, List.filter_cons, ih]
theorem codeI_erase {ns : List Int} {h h' : Int} (hlt : h < h') : codeI (ns.erase h) h' = codeI ns h' := by
  unfold codeI codeN
  rw [restR_erase hlt]
theorem srt_erase {ns : List Int} {h : Int} {t : List Int} (e : srt ns = h :: t) : srt (ns.erase h) = t := by
  have p : (h :: t).Perm ns := e ▸ srt_perm ns
  have p2 : t.Perm (ns.erase h) := by
    have z := p.erase h
    rw [List.erase_cons_head] at z
    exact z
  have s : (h :: t).Pairwise (· ≤ ·) := e ▸ srt_sorted ns
  exact (srt_eq p2 (List.pairwise_cons.mp s).2).symm
theorem codes_cons {ns : List Int} {h : Int} {t : List Int} (hn : ns.Nodup) (e : srt ns = h :: t) : codesM ns = codeI ns h :: codesM (ns.erase h) := by
  have lt : (h :: t).Pairwise (· < ·) := e ▸ srt_lt hn
  unfold codesM
  rw [e, srt_erase e, List.map_cons]
  congr 1
  refine List.map_congr_left fun x hx => ?_
  exact (codeI_erase ((List.pairwise_cons.mp lt).1 x hx)).symm
/-- bounds of codes -/
def BdC : Nat → List Int → Prop
  | 0, [] => True
  | n + 1, c :: cs => 0 ≤ c ∧ c ≤ n ∧ BdC n cs
  | _, _ => False
theorem BdC.len : ∀ {n : Nat} {cs : List Int}, BdC n cs → cs.length = n
  | 0, [], _ => rfl
  | n + 1, c :: cs, h => by rw [List.length_cons, BdC.len h.2.2]
  | 0, _ :: _, h => h.elim
  | _ + 1, [], h => h.elim
theorem codeN_lt {ns : List Int} {h : Int} (hm : h ∈ ns) : codeN ns h < (restR ns h).length := List.idxOf_lt_length_of_mem (List.mem_filter.mpr ⟨hm, decide_eq_true (Int.le_refl h)⟩)
theorem codes_nil : codesM [] = [] := by unfold codesM srt; simp
theorem codes_bd : ∀ (n : Nat) (ns : List Int), ns.length = n → ns.Nodup → BdC n (codesM ns)
  | 0, ns, hl, _ => by
    cases ns with
    | nil => rw [codes_nil]; exact trivial
    | cons _ _ => cases hl
  | n + 1, ns, hl, hn => by
    cases e : srt ns with
    | nil =>
      have z := srt_len ns
      rw [e, hl] at z
      cases z
    | cons h t =>
      have hm : h ∈ ns := srt_mem.mp (e ▸ List.mem_cons_self)
      have ihl : (ns.erase h).length = n := by rw [List.length_erase_of_mem hm, hl]; rfl
      rw [codes_cons hn e]
      refine ⟨Int.natCast_nonneg _, ?_, codes_bd n _ ihl (hn.erase h)⟩
      have z := codeN_lt hm
      have z2 := List.length_filter_le (fun n => decide (h ≤ n)) ns
      unfold codeI
      unfold restR at z
      omega
theorem codes_len (ns : List Int) : (codesM ns).length = ns.length := by unfold codesM; rw [List.length_map, srt_len]
theorem insP_perm {acc : List Int} {p : Int × Int} : (insP acc p).Perm (p.1 :: acc) := by
  unfold insP
  have h : (acc.take p.2.toNat ++ [p.1] ++ acc.drop p.2.toNat).Perm ([p.1] ++ (acc.take p.2.toNat ++ acc.drop p.2.toNat)) := by
    rw [← List.append_assoc]
    exact List.Perm.append_right _ (List.perm_append_comm)
  rw [List.take_append_drop] at h
  exact h
def PartF : Int → Int → List (Int × Int) → Prop
  | a, b, [] => a = b
  | a, b, p :: r => p.1 = a ∧ p.1 ≤ p.2 ∧ PartF (p.2 + 1) b r
theorem PartF.le : ∀ {ps : List (Int × Int)} {a b : Int}, PartF a b ps → a ≤ b
  | [], a, b, h => Int.le_of_eq h
  | p :: r, a, b, h => by
    have := PartF.le h.2.2
    have h1 := h.1
    have h2 := h.2.1
    omega
theorem PartF.app : ∀ {ps qs : List (Int × Int)} {a m b : Int}, PartF a m ps → PartF m b qs → PartF a b (ps ++ qs)
  | [], _, a, m, b, h, h' => by rw [show a = m from h]; exact h'
  | p :: r, qs, a, m, b, h, h' => ⟨h.1, h.2.1, PartF.app h.2.2 h'⟩
theorem PartF.split : ∀ {ps qs : List (Int × Int)} {a b : Int}, PartF a b (ps ++ qs) → ∃ m, PartF a m ps ∧ PartF m b qs
  | [], _, a, b, h => ⟨a, rfl, h⟩
  | p :: r, qs, a, b, h => by
    obtain ⟨m, h1, h2⟩ := PartF.split h.2.2
    exact ⟨m, ⟨h.1, h.2.1, h1⟩, h2⟩
theorem PartF.shift : ∀ {ps : List (Int × Int)} {a b : Int}, PartF a b ps → PartF (a - 1) (b - 1) (ps.map shiftR)
  | [], a, b, h => by show a - 1 = b - 1; rw [show a = b from h]
  | p :: r, a, b, h => by
    refine ⟨?_, ?_, ?_⟩
    · show p.1 - 1 = a - 1; rw [h.1]
    · show p.1 - 1 ≤ p.2 - 1; have := h.2.1; omega
    · have z := PartF.shift h.2.2
      show PartF (p.2 - 1 + 1) _ _
      rw [show p.2 - 1 + 1 = p.2 + 1 - 1 by omega]
      exact z
theorem inRn_iff {i : Int} {p : Int × Int} : inRn i p = true ↔ p.1 ≤ i ∧ i ≤ p.2 := by
  unfold inRn
  by_cases h : p.1 ≤ i
  · rw [if_pos (decide_eq_true h)]; simp [h]
  · rw [if_neg (by simpa using h)]; simp [h]
theorem inRn_before {ps : List (Int × Int)} {a b i : Int} (h : PartF a b ps) (hi : b ≤ i) : ∀ p ∈ ps, inRn i p = false := by
  induction ps generalizing a with
  | nil => intro p hp; cases hp
  | cons q r ih =>
    intro p hp
    rcases List.mem_cons.mp hp with e | e
    · subst e
      rw [Bool.eq_false_iff]
      intro z
      have z := (inRn_iff.mp z).2
      have := PartF.le h.2.2
      omega
    · exact ih h.2.2 p e
/-- the part that holds i -/
theorem part_at : ∀ {ps : List (Int × Int)} {a b i : Int}, PartF a b ps → a ≤ i → i < b → ∃ A p B, ps = A ++ p :: B ∧ PartF a p.1 A ∧ p.1 ≤ i ∧ i ≤ p.2 ∧ PartF (p.2 + 1) b B
  | [], a, b, i, h, h1, h2 => by rw [show a = b from h] at h1; omega
  | p :: r, a, b, i, h, h1, h2 => by
    by_cases hi : i ≤ p.2
    · exact ⟨[], p, r, rfl, h.1.symm, by rw [h.1]; exact h1, hi, h.2.2⟩
    · obtain ⟨A, q, B, e, h3, h4, h5, h6⟩ := part_at (i := i) h.2.2 (by omega) h2
      exact ⟨p :: A, q, B, by rw [e]; rfl, ⟨h.1, h.2.1, h3⟩, h4, h5, h6⟩
theorem runA_at {A B : List (Int × Int)} {p : Int × Int} {a i : Int} (hA : PartF a p.1 A) (h1 : p.1 ≤ i) (h2 : i ≤ p.2) : runA (A ++ p :: B) i = p ∧ ((A ++ p :: B).filter (inRn i)).head? = some p := by
  have hf : A.filter (inRn i) = [] := by
    rw [List.filter_eq_nil_iff]
    intro q hq
    rw [inRn_before hA h1 q hq]
    simp
  have hh : ((A ++ p :: B).filter (inRn i)).head? = some p := by
    rw [List.filter_append, hf, List.filter_cons, if_pos (inRn_iff.mpr ⟨h1, h2⟩)]
    rfl
  refine ⟨?_, hh⟩
  unfold runA
  rw [hh]
  rfl
theorem part_fresh {A : List (Int × Int)} {p : Int × Int} {a : Int} (hA : PartF a p.1 A) : p ∉ A := fun q => by
  have h := inRn_before (i := p.1) hA (Int.le_refl _) p q
  induction A generalizing a with
  | nil => cases q
  | cons r t ih =>
    rcases List.mem_cons.mp q with e | e
    · subst e
      have z := PartF.le hA.2.2
      have z2 := hA.2.1
      omega
    · exact ih hA.2.2 e
theorem idx_at {A B : List (Int × Int)} {p : Int × Int} {a i : Int} (hA : PartF a p.1 A) (h1 : p.1 ≤ i) (h2 : i ≤ p.2) : (A ++ p :: B).idxOf (runA (A ++ p :: B) i) = A.length := by
  rw [(runA_at hA h1 h2).1, List.idxOf_append, if_neg (part_fresh hA), List.idxOf_cons_self, Nat.zero_add]
theorem nextP_part {A B : List (Int × Int)} {p : Int × Int} {b : Int} (hA : PartF 0 p.1 A) (hp : p.1 ≤ p.2) (hB : PartF (p.2 + 1) b B) : PartF 0 (b - 1) (nextP (A ++ p :: B) A.length) := by
  -- the left end
  have left : ∃ A', (A ++ p :: B).take (A.length - 1) = A' ∧ PartF 0 (fstR (A ++ p :: B) A.length) A' ∧ fstR (A ++ p :: B) A.length ≤ p.1 ∧ (A ≠ [] → fstR (A ++ p :: B) A.length < p.1) := by
    rcases List.eq_nil_or_concat A with e | ⟨A0, q, e⟩
    · subst e
      refine ⟨[], rfl, ?_, ?_, fun z => absurd rfl z⟩
      · show (0 : Int) = p.1
        exact hA
      · exact Int.le_refl _
    · rw [List.concat_eq_append] at e
      subst e
      obtain ⟨m, h1, h2⟩ := PartF.split hA
      have e1 : (A0 ++ [q] ++ p :: B).take ((A0 ++ [q]).length - 1) = A0 := by
        rw [List.append_assoc, List.length_append]
        exact List.take_left' (by simp)
      have e2 : fstR (A0 ++ [q] ++ p :: B) (A0 ++ [q]).length = q.1 := by
        unfold fstR
        rw [List.append_assoc, List.length_append, show A0.length + [q].length - 1 = A0.length by simp, List.getD_eq_getElem?_getD, List.getElem?_append_right (Nat.le_refl _), Nat.sub_self]
        rfl
      have h3 : q.2 + 1 = p.1 := h2.2.2
      have h4 := h2.2.1
      have h5 := h2.1
      refine ⟨A0, e1, by rw [e2, h5]; exact h1, by rw [e2]; omega, fun _ => by rw [e2]; omega⟩
  have right : PartF (lstR (A ++ p :: B) A.length + 1) (b - 1) (((A ++ p :: B).drop (A.length + 2)).map shiftR) ∧ p.2 - 1 ≤ lstR (A ++ p :: B) A.length ∧ (B ≠ [] → p.2 ≤ lstR (A ++ p :: B) A.length) := by
    cases B with
    | nil =>
      have e1 : (A ++ [p]).drop (A.length + 2) = [] := List.drop_eq_nil_of_le (by simp)
      have e2 : lstR (A ++ [p]) A.length = p.2 - 1 := by
        unfold lstR
        rw [List.length_append, show min (A.length + [p].length - 1) (A.length + 1) = A.length by simp, List.getD_eq_getElem?_getD, List.getElem?_append_right (Nat.le_refl _), Nat.sub_self]
        rfl
      rw [e1, e2]
      have hB : p.2 + 1 = b := hB
      exact ⟨show p.2 - 1 + 1 = b - 1 by omega, Int.le_refl _, fun z => absurd rfl z⟩
    | cons q B =>
      have e1 : (A ++ p :: q :: B).drop (A.length + 2) = B := by
        rw [List.drop_append, List.drop_eq_nil_of_le (by omega), show A.length + 2 - A.length = 2 by omega]
        rfl
      have e2 : lstR (A ++ p :: q :: B) A.length = q.2 - 1 := by
        unfold lstR
        rw [List.length_append, show min (A.length + (p :: q :: B).length - 1) (A.length + 1) = A.length + 1 by simp, List.getD_eq_getElem?_getD, List.getElem?_append_right (by omega), show A.length + 1 - A.length = 1 by omega]
        rfl
      rw [e1, e2]
      have z := hB.2.2.shift
      have h4 := hB.1
      have h5 := hB.2.1
      rw [show q.2 + 1 - 1 = q.2 - 1 + 1 by omega] at z
      exact ⟨z, by omega, fun _ => by omega⟩
  obtain ⟨A', e1, h1, h2, h3⟩ := left
  obtain ⟨h4, h5, h6⟩ := right
  unfold nextP
  rw [e1]
  by_cases hc : fstR (A ++ p :: B) A.length ≤ lstR (A ++ p :: B) A.length
  · rw [if_pos hc]
    exact PartF.app (PartF.app h1 ⟨rfl, hc, rfl⟩) h4
  · rw [if_neg hc, List.append_nil]
    have e : fstR (A ++ p :: B) A.length = lstR (A ++ p :: B) A.length + 1 := by omega
    rw [e] at h1
    exact PartF.app h1 h4
theorem runA_in {ps : List (Int × Int)} {n i : Int} (h : PartF 0 n ps) (h0 : 0 ≤ i) (h1 : i < n) : ∃ A p B, ps = A ++ p :: B ∧ runA ps i = p ∧ (ps.filter (inRn i)).head? = some p ∧ ps.idxOf (runA ps i) = A.length ∧ p.1 ≤ i ∧ i ≤ p.2 ∧ PartF 0 p.1 A ∧ PartF (p.2 + 1) n B := by
  obtain ⟨A, p, B, e, hA, l1, l2, hB⟩ := part_at h h0 h1
  subst e
  exact ⟨A, p, B, rfl, (runA_at hA l1 l2).1, (runA_at hA l1 l2).2, idx_at hA l1 l2, l1, l2, hA, hB⟩
theorem nextR_part {ps : List (Int × Int)} {n i : Int} (h : PartF 0 n ps) (h0 : 0 ≤ i) (h1 : i < n) : PartF 0 (n - 1) (nextR ps i) := by
  obtain ⟨A, p, B, e, _, _, e3, l1, l2, hA, hB⟩ := runA_in h h0 h1
  subst e
  unfold nextR
  rw [e3]
  exact nextP_part hA (by omega) hB
/-- within one part nothing changes -/
theorem run_same {ps : List (Int × Int)} {n i j : Int} (h : PartF 0 n ps) (h0 : 0 ≤ i) (h1 : i < n) (hj : (runA ps i).1 ≤ j) (hj2 : j ≤ (runA ps i).2) : runA ps j = runA ps i ∧ nextR ps j = nextR ps i := by
  obtain ⟨A, p, B, e, e1, _, e3, l1, l2, hA, hB⟩ := runA_in h h0 h1
  subst e
  rw [e1] at hj hj2
  have z := runA_at (B := B) hA hj hj2
  refine ⟨z.1.trans e1.symm, ?_⟩
  unfold nextR
  rw [z.1, e1]
theorem run_bounds {ps : List (Int × Int)} {n i : Int} (h : PartF 0 n ps) (h0 : 0 ≤ i) (h1 : i < n) : 0 ≤ (runA ps i).1 ∧ (runA ps i).1 ≤ i ∧ i ≤ (runA ps i).2 ∧ (runA ps i).2 < n := by
  obtain ⟨A, p, B, e, e1, _, e3, l1, l2, hA, hB⟩ := runA_in h h0 h1
  rw [e1]
  have z1 := hA.le
  have z2 := hB.le
  exact ⟨z1, l1, l2, by omega⟩
theorem iniR_part (n : Nat) : PartF 0 n (iniR n) := by
  have gen : ∀ (m k : Nat), PartF (k : Int) ((k + m : Nat) : Int) ((List.range' k m).map fun (i : Nat) => ((i : Int), (i : Int))) := by
    intro m
    induction m with
    | zero => intro k; rfl
    | succ m ih =>
      intro k
      rw [List.range'_succ, List.map_cons]
      refine ⟨rfl, Int.le_refl _, ?_⟩
      have z := ih (k + 1)
      rw [show k + 1 + m = k + (m + 1) by omega] at z
      exact z
  have z := gen n 0
  unfold iniR
  rw [List.range_eq_range', ← Nat.zero_add n]
  simpa using z
/-- marks within the runs give the same runs -/
def InRs : List (Int × Int) → List Int → Prop
  | [], [] => True
  | p :: ps, c :: cs => p.1 ≤ c ∧ c ≤ p.2 ∧ InRs ps cs
  | _, _ => False
theorem goR_same : ∀ {n : Nat} {here : List (Int × Int)} {cs ms : List Int}, PartF 0 n here → BdC n cs → InRs (goR here cs) ms → goR here ms = goR here cs ∧ BdC n ms
  | 0, _, [], [], _, _, _ => ⟨rfl, trivial⟩
  | 0, _, [], _ :: _, _, _, h => h.elim
  | 0, _, _ :: _, _, _, h, _ => h.elim
  | n + 1, _, [], _, _, h, _ => h.elim
  | n + 1, _, _ :: _, [], _, _, h => h.elim
  | n + 1, here, c :: cs, m :: ms, hp, hb, hi => by
    obtain ⟨c0, c1, hb⟩ := hb
    obtain ⟨i1, i2, hi⟩ := hi
    have hc : c < ((n + 1 : Nat) : Int) := by omega
    obtain ⟨e1, e2⟩ := run_same hp c0 hc i1 i2
    have np := nextR_part hp c0 hc
    rw [show ((n + 1 : Nat) : Int) - 1 = (n : Int) by omega] at np
    obtain ⟨b0, b1, b2, b3⟩ := run_bounds hp c0 hc
    obtain ⟨h1, h2⟩ := goR_same np hb hi
    refine ⟨?_, by omega, by omega, h2⟩
    show runA here m :: goR (nextR here m) ms = runA here c :: goR (nextR here c) cs
    rw [e1, e2, h1]
theorem inRs_self : ∀ {n : Nat} {here : List (Int × Int)} {cs : List Int}, PartF 0 n here → BdC n cs → InRs (goR here cs) cs
  | 0, _, [], _, _ => trivial
  | 0, _, _ :: _, _, h => h.elim
  | n + 1, _, [], _, h => h.elim
  | n + 1, here, c :: cs, hp, hb => by
    obtain ⟨c0, c1, hb⟩ := hb
    have hc : c < ((n + 1 : Nat) : Int) := by omega
    obtain ⟨b0, b1, b2, b3⟩ := run_bounds hp c0 hc
    have np := nextR_part hp c0 hc
    rw [show ((n + 1 : Nat) : Int) - 1 = (n : Int) by omega] at np
    exact ⟨b1, b2, inRs_self np hb⟩
end DL
set_option Elab.async false
set_option linter.all false
set_option maxRecDepth 100000
set_option autoImplicit false
namespace DL
open PySem PySem.Spec PyProof.Rows L2
theorem index_int {ms : List Int} {h : Int} (hm : h ∈ ms) : (zD ms).findIdx? (fun z => PyData.eqv z (.int h)) = some (ms.idxOf h) := by
  induction ms with
  | nil => cases hm
  | cons a t ih =>
    show (List.findIdx? _ (_ :: _)) = _
    rw [List.findIdx?_cons]
    have e : PyData.eqv (.int a) (.int h) = (a == h) := by simp [PyData.eqv]
    rw [e]
    by_cases q : a = h
    · subst q; simp
    · have q' : (a == h) = false := by simpa using q
      rw [q', List.idxOf_cons, q']
      simp only [Bool.false_eq_true, if_false]
      rcases List.mem_cons.mp hm with z | z
      · exact absurd z.symm q
      · rw [ih z]; rfl
theorem zip2_map {α β : Type} (f : α → PyData) (g : β → PyData) : ∀ (xs : List α) (ys : List β), zip2 (xs.map f) (ys.map g) = (xs.zip ys).map (fun q => .tuple [f q.1, g q.2])
  | [], _ => rfl
  | _ :: _, [] => rfl
  | x :: xs, y :: ys => congrArg (PyData.tuple [f x, g y] :: ·) (zip2_map f g xs ys)
theorem cut_from {α : Type} (xs : List α) (n : Nat) : cut xs (some (n : Int)) none = xs.drop n := by
  unfold cut
  rw [HT.sIx_nat, HT.sIx_none]
  by_cases h : n ≤ xs.length
  · rw [Nat.min_eq_left h, List.take_of_length_le (by rw [List.length_drop]; exact Nat.le_refl _)]
  · rw [Nat.min_eq_right (by omega), List.drop_length, List.drop_eq_nil_of_le (by omega), List.take_nil]
theorem cut_to {α : Type} (xs : List α) (n : Nat) : cut xs none (some (n : Int)) = xs.take n := by
  unfold cut
  rw [HT.sIx_nat, HT.sIx_none, Nat.sub_zero, List.drop_zero]
  by_cases h : n ≤ xs.length
  · rw [Nat.min_eq_left h]
  · rw [Nat.min_eq_right (by omega), List.take_length, List.take_of_length_le (by omega)]
theorem cut_map {α β : Type} (f : α → β) (xs : List α) (a b : Option Int) : cut (xs.map f) a b = (cut xs a b).map f := by
  unfold cut
  rw [List.length_map, List.map_take, List.map_drop]
end DL
set_option Elab.async false
set_option linter.all false
set_option maxRecDepth 100000
set_option maxHeartbeats 1000000
set_option autoImplicit false
namespace DL
open PySem PySem.Spec PyProof.Rows L2
theorem callF_ok {f : Fn} {rs : List R} {q : Res} {g : G} {own : Bool} (h : f rs [] = .ok q []) (hb : boxes rs = []) (hr : rs.map (renR []) = rs) (hL : rs.all noL = true) : callF f own rs g = .ok (resF own g q).1 (resF own g q).2 := by
  unfold callF
  rw [hb, if_pos ⟨List.nodup_nil, fun j hj => (nomatch hj), hL⟩, hr, List.map_nil, h]
  rfl
theorem callF_ex {f : Fn} {rs : List R} {n : Xn} {g : G} {own : Bool} (h : f rs [] = .ex n []) (hb : boxes rs = []) (hr : rs.map (renR []) = rs) (hL : rs.all noL = true) : callF f own rs g = .ex n g := by
  unfold callF
  rw [hb, if_pos ⟨List.nodup_nil, fun j hj => (nomatch hj), hL⟩, hr, List.map_nil, h]
  rfl
theorem call_of {f : Fn} {rs : List R} {x : PyData} (h : f rs [] = .ok (.dat x) []) (g : G) (own : Bool) (hb : boxes rs = [] := by rfl) (hr : rs.map (renR []) = rs := by rfl) (hL : rs.all noL = true := by rfl) : callF f own rs g = .ok (.d x) g := callF_ok h hb hr hL
theorem call_lst {f : Fn} {rs : List R} {ds : List PyData} (h : f rs [] = .ok (.newC (.lst ds)) []) (g : G) (hb : boxes rs = [] := by rfl) (hr : rs.map (renR []) = rs := by rfl) (hL : rs.all noL = true := by rfl) : callF f false rs g = .ok (.d (.list ds)) g := callF_ok h hb hr hL
theorem call_newO {f : Fn} {rs : List R} {ct : Ct} (h : f rs [] = .ok (.newC ct) []) (g : G) (hb : boxes rs = [] := by rfl) (hr : rs.map (renR []) = rs := by rfl) (hL : rs.all noL = true := by rfl) : callF f true rs g = .ok (.o g.ce.length) ⟨g.sl, g.ce ++ [ct]⟩ := callF_ok h hb hr hL
theorem callB_ok {f : Fn} {rs : List R} {q : Res} {g : G} {own : Bool} {j : Nat} {ct ct' : Ct} (hj : g.ce[j]? = some ct) (ha : aliveB (some ct) = true) (h : f (.o 0 :: rs) [ct] = .ok q [ct']) (hb : boxes rs = []) (hr : rs.map (renR [j]) = rs) (hL : (R.o j :: rs).all noL = true) (hc : clnI ct' = ct' := by rfl) :
    callF f own (.o j :: rs) g = .ok (resF own ⟨g.sl, g.ce.set j ct'⟩ q).1 (resF own ⟨g.sl, g.ce.set j ct'⟩ q).2 := by
  have hb' : boxes (.o j :: rs) = [j] := by
    unfold boxes at hb ⊢
    rw [List.filterMap_cons]
    show j :: _ = _
    rw [hb]
  unfold callF
  rw [hb', if_pos ⟨by simp, fun i hi => by rw [List.mem_singleton.mp hi, hj]; exact ha, hL⟩, List.map_cons, hr]
  have e1 : renR [j] (.o j) = .o 0 := by show R.o ([j].idxOf j) = _; simp
  have e2 : [j].map (fun j => g.ce.getD j .dead) = [ct] := by
    rw [List.map_cons, List.map_nil, List.getD_eq_getElem?_getD, hj]; rfl
  rw [e1, e2, h]
  show (Out.ok (resF own ⟨g.sl, g.ce.set j (clnI ct')⟩ q).1 (resF own ⟨g.sl, g.ce.set j (clnI ct')⟩ q).2) = _
  rw [hc]
theorem callB_of {f : Fn} {rs : List R} {x : PyData} {j : Nat} {ds ds' : List PyData} (h : f (.o 0 :: rs) [.lst ds] = .ok (.dat x) [.lst ds']) {g : G} (own : Bool) (hj : g.ce[j]? = some (.lst ds)) (hb : boxes rs = [] := by rfl) (hr : rs.map (renR [j]) = rs := by rfl) (hL : (R.o j :: rs).all noL = true := by rfl) :
    callF f own (.o j :: rs) g = .ok (.d x) ⟨g.sl, g.ce.set j (.lst ds')⟩ := callB_ok hj rfl h hb hr hL
theorem callB_new {f : Fn} {rs : List R} {es : List PyData} {j : Nat} {ds ds' : List PyData} (h : f (.o 0 :: rs) [.lst ds] = .ok (.newC (.lst es)) [.lst ds']) {g : G} (hj : g.ce[j]? = some (.lst ds)) (hb : boxes rs = [] := by rfl) (hr : rs.map (renR [j]) = rs := by rfl) (hL : (R.o j :: rs).all noL = true := by rfl) :
    callF f false (.o j :: rs) g = .ok (.d (.list es)) ⟨g.sl, g.ce.set j (.lst ds')⟩ := callB_ok hj rfl h hb hr hL
/-- a while whose test changes nothing -/
theorem sWh_inv0 {t : FT} {u : FS} {g : G} (I : Nat → G → Prop) (J : G → Prop) (n : Nat) (h0 : I n g) (hs : ∀ n g, I n g → (t g = .ok false g ∧ J g) ∨ ∃ g2 m, t g = .ok true g ∧ u g = .ok .nx g2 ∧ m < n ∧ I m g2) : ∃ g', sWh t u g = .ok .nx g' ∧ J g' :=
  sWh_inv I J n h0 fun n g hI => (hs n g hI).elim (fun h => .inl ⟨g, h⟩) fun ⟨g2, m, h1, h2, h3, h4⟩ => .inr ⟨g, g2, m, h1, .inl h2, h3, h4⟩
theorem any_emb {α : Type} [DecidableEq α] (emb : α → PyData) (h : ∀ a b, PyData.eqv (emb a) (emb b) = decide (a = b)) (ns : List α) (i : α) : ((ns.map emb).any fun z => PyData.eqv z (emb i)) = decide (i ∈ ns) := by
  rw [Bool.eq_iff_iff, List.any_eq_true, decide_eq_true_eq]
  constructor
  · rintro ⟨x, hx, e⟩
    obtain ⟨n, hn, rfl⟩ := List.mem_map.mp hx
    rw [h] at e
    rw [← of_decide_eq_true e]
    exact hn
  · intro hi
    exact ⟨_, List.mem_map.mpr ⟨i, hi, rfl⟩, by rw [h]; simp⟩
@[simp] theorem any_zD (ns : List Int) (i : Int) : ((zD ns).any fun z => PyData.eqv z (.int i)) = decide (i ∈ ns) := any_emb PyData.int (fun _ _ => eqv_int) ns i
@[simp] theorem any_psD (ps : List (Int × Int)) (p : Int × Int) : ((psD ps).any fun z => PyData.eqv z (pD p)) = decide (p ∈ ps) := (any_emb pD (fun _ _ => eqv_pD) ps p).trans (decide_eq_decide.mpr Iff.rfl)
theorem rng0 (n : Nat) : rng 0 n = (List.range n).map (fun (i : Nat) => PyData.int (i : Int)) := by
  unfold rng
  exact List.map_congr_left fun i _ => by rw [Int.zero_add]
theorem rOk_of {i : Int} (h1 : -1000000000 ≤ i) (h2 : i ≤ 1000000000) : rOk i = true := decide_eq_true ⟨by omega, by omega⟩
theorem atI_cast {α : Type} (xs : List α) (n : Nat) : atI xs (n : Int) = xs[n]? := by
  unfold atI ixN
  by_cases h : n < xs.length
  · simp [show ¬ ((n : Int) < 0) by omega, h]
  · simp [show ¬ ((n : Int) < 0) by omega, h]
@[simp] theorem atI_0 {α : Type} (xs : List α) : atI xs 0 = xs[0]? := atI_cast xs 0
@[simp] theorem atI_1 {α : Type} (xs : List α) : atI xs 1 = xs[1]? := atI_cast xs 1
@[simp] theorem atI_2 {α : Type} (xs : List α) : atI xs 2 = xs[2]? := atI_cast xs 2
@[simp] theorem atI_m1 {α : Type} (xs : List α) (x : α) : atI (xs ++ [x]) (-1) = some x := L2.atI_last xs x
end DL
set_option Elab.async false
set_option linter.all false
set_option maxRecDepth 100000
set_option autoImplicit false
namespace DL
open PySem PySem.Spec PyProof.Rows L2
theorem log_small {b : Int} (h0 : 0 < b) (h : b ≤ 10 ^ 100) : b.natAbs.log2 < 9000 := by
  have h1 : b.natAbs ≤ 10 ^ 100 := by omega
  have h2 : b.natAbs < 2 ^ 9000 := Nat.lt_of_le_of_lt h1 (by decide +kernel)
  exact (Nat.log2_lt (by omega)).mpr h2
theorem atI_int {α : Type} {xs : List α} {r : Int} (h0 : 0 ≤ r) (h1 : r < xs.length) : ∃ x, x ∈ xs ∧ xs[r.toNat]? = some x ∧ atI xs r = some x := by
  have hl : r.toNat < xs.length := by omega
  refine ⟨xs[r.toNat], List.getElem_mem hl, List.getElem?_eq_getElem hl, ?_⟩
  have e : ((r.toNat : Nat) : Int) = r := Int.toNat_of_nonneg h0
  have z := atI_nat (List.getElem?_eq_getElem hl)
  rw [e] at z
  exact z
theorem seqIx {n : Nat} {r : Int} (h0 : 0 ≤ r) (h1 : r < n) : seqIndex? r n = some r.toNat := by
  refine (ixN_seq ?_).1
  unfold ixN
  rw [if_pos h0, if_pos h1]
theorem perm_pop {α : Type} {f l ds : List α} {i : Nat} {x : α} (h : (f ++ l).Perm ds) (hx : l[i]? = some x) : ((f ++ [x]) ++ l.eraseIdx i).Perm ds := by
  refine List.Perm.trans ?_ h
  rw [List.append_assoc]
  refine List.Perm.append_left f ?_
  have hl := (List.getElem?_eq_some_iff.mp hx).1
  have hv := (List.getElem?_eq_some_iff.mp hx).2
  rw [List.eraseIdx_eq_take_drop_succ]
  have e : l = l.take i ++ x :: l.drop (i + 1) := by
    rw [← hv, ← List.drop_eq_getElem_cons hl, List.take_append_drop]
  conv => rhs; rw [e]
  show (x :: (l.take i ++ l.drop (i + 1))).Perm _
  exact List.perm_middle.symm
/-- the keys of a dict that holds True at whole numbers -/
def kD (ks : List Int) : IKs := ks.map fun z => (Sum.inl z, .bool true)
/-- one of m numbers is free -/
theorem all_in : ∀ (m : Nat) (ks : List Int), (∀ v : Int, 1 ≤ v → v ≤ m → v ∈ ks) → m ≤ ks.length
  | 0, _, _ => Nat.zero_le _
  | m + 1, ks, h => by
    have hm : ((m + 1 : Nat) : Int) ∈ ks := h _ (by omega) (by omega)
    have z := all_in m (ks.erase ((m + 1 : Nat) : Int)) fun v h1 h2 => (List.mem_erase_of_ne (by omega)).mpr (h v h1 (by omega))
    rw [List.length_erase_of_mem hm] at z
    have := List.length_pos_of_mem hm
    omega
theorem free_one {ks : List Int} {m : Nat} (h : ks.length < m) : ∃ v : Int, 1 ≤ v ∧ v ≤ m ∧ v ∉ ks := by
  apply Classical.byContradiction
  intro hn
  have z := all_in m ks fun v h1 h2 => Classical.byContradiction fun hc => hn ⟨v, h1, h2, hc⟩
  omega
theorem step_free {v s top : Int} (v1 : 1 ≤ v) (v2 : v ≤ top) (s1 : 1 ≤ s) (s2 : s ≤ top) (ne : v ≠ s) : 1 ≤ s % top + 1 ∧ s % top + 1 ≤ top ∧ ((v - (s % top + 1)) % top).toNat < ((v - s) % top).toNat := by
  have wrap : ∀ x : Int, -top ≤ x → x < 0 → x % top = x + top := fun x h1 h2 => by
    rw [← Int.add_emod_right, Int.emod_eq_of_lt (by omega) (by omega)]
  by_cases e : s = top
  · subst e
    rw [Int.emod_self, Int.emod_eq_of_lt (show 0 ≤ v - (0 + 1) by omega) (by omega), wrap (v - s) (by omega) (by omega)]
    omega
  · have es : s % top = s := Int.emod_eq_of_lt (by omega) (by omega)
    rw [es]
    by_cases q : s < v
    · rw [Int.emod_eq_of_lt (show 0 ≤ v - (s + 1) by omega) (by omega), Int.emod_eq_of_lt (show 0 ≤ v - s by omega) (by omega)]
      omega
    · rw [wrap (v - s) (by omega) (by omega), wrap (v - (s + 1)) (by omega) (by omega)]
      omega
theorem perm_zD {es : List PyData} {hs : List Int} (h : es.Perm (zD hs)) : ∃ ns, es = zD ns ∧ ns.Perm hs := by
  have hall : ∀ d ∈ es, ∃ i : Int, d = .int i := fun d hd => by
    obtain ⟨i, _, e⟩ := List.mem_map.mp (h.mem_iff.mp hd)
    exact ⟨i, e.symm⟩
  have ex : ∀ (es : List PyData), (∀ d ∈ es, ∃ i : Int, d = .int i) → ∃ ns, es = zD ns := by
    intro es
    induction es with
    | nil => intro _; exact ⟨[], rfl⟩
    | cons d t ih =>
      intro q
      obtain ⟨i, rfl⟩ := q d List.mem_cons_self
      obtain ⟨ns, rfl⟩ := ih fun d hd => q d (List.mem_cons_of_mem _ hd)
      exact ⟨i :: ns, rfl⟩
  obtain ⟨ns, rfl⟩ := ex es hall
  refine ⟨ns, rfl, ?_⟩
  have un : ∀ l : List Int, (zD l).map (fun d => match d with | .int i => i | _ => 0) = l := fun l => by
    unfold zD
    rw [List.map_map]
    exact List.map_id' l
  have z := h.map (fun d => match d with | .int i => i | _ => 0)
  rw [un, un] at z
  exact z
theorem set_last {α : Type} {l : List α} {x y : α} : (l ++ [x]).set l.length y = l ++ [y] := by
  rw [List.set_append_right _ _ (Nat.le_refl _), Nat.sub_self]
  rfl
/-- a box of draws; at most n draws out of its own numbers so far -/
def BoxOk (n : Nat) (bx : List PyData) : Prop := ∃ a b c : Int, bx = [.int a, .int b, .int c] ∧ 0 ≤ a ∧ 0 ≤ b ∧ b < 2 ^ 62 ∧ 0 ≤ c ∧ c ≤ n
theorem BoxOk.mono {n m : Nat} {bx : List PyData} (h : BoxOk n bx) (hm : n ≤ m) : BoxOk m bx := by
  obtain ⟨a, b, c, e, h1, h2, h3, h4, h5⟩ := h
  exact ⟨a, b, c, e, h1, h2, h3, h4, by omega⟩
def boxM (x : Int) (j : Nat) : List PyData := [.int ((if x < 0 then -x else x) * (if decide ((10 : Int) ^ (18 : Int).toNat ≤ (if x < 0 then -x else x)) = true then 1 else 0)), .int (x % 2305843009213693951 + 39373 * (j : Int) + 29), .int 0]
theorem boxM_ok (x : Int) (j : Nat) (hj : j < 64) : BoxOk 0 (boxM x j) := by
  refine ⟨_, _, _, rfl, ?_, ?_, ?_, Int.le_refl _, Int.le_refl _⟩
  · refine Int.mul_nonneg ?_ ?_
    · split <;> omega
    · split <;> omega
  · have := Int.emod_nonneg x (show (2305843009213693951 : Int) ≠ 0 by decide)
    omega
  · have := Int.emod_lt_of_pos x (show (0 : Int) < 2305843009213693951 by decide)
    omega
theorem kD_val (ks : List Int) (i : Int) : (valP (kD ks) (.inl i)).isSome = decide (i ∈ ks) := by
  induction ks with
  | nil => simp [kD, valP]
  | cons k ks ih =>
    have ih : (valP (ks.map fun z => ((Sum.inl z : Key), PyData.bool true)) (.inl i)).isSome = decide (i ∈ ks) := ih
    show (valP (((Sum.inl k : Key), PyData.bool true) :: ks.map fun z => ((Sum.inl z : Key), PyData.bool true)) (.inl i)).isSome = _
    rw [valP]
    by_cases h : k = i
    · subst h; simp
    · have h' : ¬ (i = k) := fun z => h z.symm
      rw [if_neg (fun z => h (Sum.inl.inj z)), ih]
      simp [h']
theorem kD_put {ks : List Int} {i : Int} (h : i ∉ ks) : putP (kD ks) (.inl i) (.bool true) = kD (ks ++ [i]) := by
  unfold putP
  rw [if_neg ?_]
  · unfold kD; rw [List.map_append]; rfl
  · rw [List.any_eq_true]
    rintro ⟨p, hp, e⟩
    obtain ⟨z, hz, rfl⟩ := List.mem_map.mp hp
    have e := Sum.inl.inj (of_decide_eq_true e)
    exact h (e ▸ hz)
theorem kD_keys (ks : List Int) : asKeys (kD ks) = some ks := by
  induction ks with
  | nil => rfl
  | cons k ks ih => show (asKeys (kD ks)).map (k :: ·) = _; rw [ih]; rfl
theorem kD_len (ks : List Int) : (kD ks).length = ks.length := List.length_map ..
end DL
set_option Elab.async false
set_option linter.all false
set_option maxRecDepth 100000
set_option autoImplicit false
namespace DL
open PySem PySem.Spec PyProof.Rows L2
/-- a row with marks within the runs -/
structure Mate (ns t : List Int) : Prop where
  nd : t.Nodup
  sr : srt t = srt ns
  rn : runsM t = runsM ns
  len : t.length = ns.length
theorem InRs.len : ∀ {ps : List (Int × Int)} {ms : List Int}, InRs ps ms → ms.length = ps.length
  | [], [], _ => rfl
  | _ :: _, _ :: _, h => by rw [List.length_cons, List.length_cons, InRs.len h.2.2]
  | [], _ :: _, h => h.elim
  | _ :: _, [], h => h.elim
def tupD (l : List Int) : PyData := .tuple (zD l)
end DL
set_option Elab.async false
set_option linter.all false
set_option maxRecDepth 100000
set_option autoImplicit false
namespace DL
open PySem PySem.Spec PyProof.Rows L2
/-- how the next list of runs is made -/
theorem next_form {here : List (Int × Int)} {n c : Int} (h : PartF 0 n here) (h0 : 0 ≤ c) (h1 : c < n) : ∃ A0 Al p Br B0 f l, here = A0 ++ Al ++ p :: (Br ++ B0) ∧ p.1 ≤ c ∧ c ≤ p.2 ∧ nextR here c = A0 ++ (if f ≤ l then [(f, l)] else []) ++ B0.map shiftR ∧ PartF 0 p.1 (A0 ++ Al) ∧ PartF (p.2 + 1) n (Br ++ B0) ∧
    ((Al = [] ∧ A0 = [] ∧ f = p.1 ∧ p.1 = 0) ∨ ∃ q, Al = [q] ∧ f = q.1 ∧ q.2 + 1 = p.1 ∧ q.1 ≤ q.2) ∧ ((Br = [] ∧ B0 = [] ∧ l = p.2 - 1 ∧ p.2 + 1 = n) ∨ ∃ q, Br = [q] ∧ l = q.2 - 1 ∧ q.1 = p.2 + 1 ∧ q.1 ≤ q.2) := by
  obtain ⟨A, p, B, e, _, _, e3, l1, l2, hA, hB⟩ := runA_in h h0 h1
  subst e
  have hn : nextR (A ++ p :: B) c = nextP (A ++ p :: B) A.length := by unfold nextR; rw [e3]
  rw [hn]
  -- left
  have left : ∃ A0 Al f, A = A0 ++ Al ∧ (A ++ p :: B).take (A.length - 1) = A0 ∧ fstR (A ++ p :: B) A.length = f ∧ ((Al = [] ∧ A0 = [] ∧ f = p.1 ∧ p.1 = 0) ∨ ∃ q, Al = [q] ∧ f = q.1 ∧ q.2 + 1 = p.1 ∧ q.1 ≤ q.2) := by
    rcases List.eq_nil_or_concat A with e | ⟨A0, q, e⟩
    · subst e
      refine ⟨[], [], p.1, rfl, rfl, rfl, .inl ⟨rfl, rfl, rfl, ?_⟩⟩
      exact (show (0 : Int) = p.1 from hA).symm
    · rw [List.concat_eq_append] at e
      subst e
      obtain ⟨m, g1, g2⟩ := PartF.split hA
      refine ⟨A0, [q], q.1, rfl, ?_, ?_, .inr ⟨q, rfl, rfl, g2.2.2, g2.2.1⟩⟩
      · rw [List.append_assoc, List.length_append]
        exact List.take_left' (by simp)
      · unfold fstR
        rw [List.append_assoc, List.length_append, show A0.length + [q].length - 1 = A0.length by simp, List.getD_eq_getElem?_getD, List.getElem?_append_right (Nat.le_refl _), Nat.sub_self]
        rfl
  have right : ∃ Br B0 l, B = Br ++ B0 ∧ (A ++ p :: B).drop (A.length + 2) = B0 ∧ lstR (A ++ p :: B) A.length = l ∧ ((Br = [] ∧ B0 = [] ∧ l = p.2 - 1 ∧ p.2 + 1 = n) ∨ ∃ q, Br = [q] ∧ l = q.2 - 1 ∧ q.1 = p.2 + 1 ∧ q.1 ≤ q.2) := by
    cases B with
    | nil =>
      refine ⟨[], [], p.2 - 1, rfl, List.drop_eq_nil_of_le (by simp), ?_, .inl ⟨rfl, rfl, rfl, hB⟩⟩
      unfold lstR
      rw [List.length_append, show min (A.length + [p].length - 1) (A.length + 1) = A.length by simp, List.getD_eq_getElem?_getD, List.getElem?_append_right (Nat.le_refl _), Nat.sub_self]
      rfl
    | cons q B =>
      refine ⟨[q], B, q.2 - 1, rfl, ?_, ?_, .inr ⟨q, rfl, rfl, hB.1, hB.2.1⟩⟩
      · rw [List.drop_append, List.drop_eq_nil_of_le (by omega), show A.length + 2 - A.length = 2 by omega]
        rfl
      · unfold lstR
        rw [List.length_append, show min (A.length + (p :: q :: B).length - 1) (A.length + 1) = A.length + 1 by simp, List.getD_eq_getElem?_getD, List.getElem?_append_right (by omega), show A.length + 1 - A.length = 1 by omega]
        rfl
  obtain ⟨A0, Al, f, e1, e2, e3', hl⟩ := left
  obtain ⟨Br, B0, l, e4, e5, e6, hr⟩ := right
  refine ⟨A0, Al, p, Br, B0, f, l, ?_, l1, l2, ?_, ?_, ?_, hl, hr⟩
  · rw [← e1, ← e4]
  · unfold nextP
    rw [e2, e3', e5, e6]
  · rw [← e1]; exact hA
  · rw [← e4]; exact hB
/-- two indices in one part -/
def Jn (ps : List (Int × Int)) (i : Int) : Prop := ∃ q ∈ ps, q.1 ≤ i ∧ i + 1 ≤ q.2
theorem part_mem : ∀ {ps : List (Int × Int)} {a b : Int} {q : Int × Int}, PartF a b ps → q ∈ ps → a ≤ q.1 ∧ q.1 ≤ q.2 ∧ q.2 + 1 ≤ b
  | [], _, _, _, _, h => by cases h
  | p :: r, a, b, q, hp, h => by
    rcases List.mem_cons.mp h with e | e
    · subst e
      have := hp.2.2.le
      have := hp.1
      exact ⟨by omega, hp.2.1, by omega⟩
    · have z := part_mem hp.2.2 e
      have := hp.1
      have := hp.2.1
      exact ⟨by omega, z.2.1, z.2.2⟩
theorem jn_new {here : List (Int × Int)} {n c : Int} (h : PartF 0 n here) (h0 : 0 < c) (h1 : c + 1 < n) : Jn (nextR here c) (c - 1) := by
  obtain ⟨A0, Al, p, Br, B0, f, l, e, l1, l2, en, hA, hB, hl, hr⟩ := next_form (c := c) h (by omega) (by omega)
  have hf : f ≤ c - 1 := by
    rcases hl with ⟨_, _, z, z0⟩ | ⟨q, _, z1, z2, z3⟩
    · omega
    · omega
  have hll : c ≤ l := by
    rcases hr with ⟨_, _, z, z0⟩ | ⟨q, _, z1, z2, z3⟩
    · omega
    · omega
  refine ⟨(f, l), ?_, hf, by show c - 1 + 1 ≤ l; omega⟩
  rw [en, if_pos (by omega)]
  simp
theorem jn_left {here : List (Int × Int)} {n c i : Int} (h : PartF 0 n here) (h0 : 0 ≤ c) (h1 : c < n) (hj : Jn here i) (hc : c < i) : Jn (nextR here c) (i - 1) := by
  obtain ⟨A0, Al, p, Br, B0, f, l, e, l1, l2, en, hA, hB, hl, hr⟩ := next_form h h0 h1
  obtain ⟨q, hq, q1, q2⟩ := hj
  have hfp : f ≤ p.1 := by
    rcases hl with ⟨_, _, z, z0⟩ | ⟨q, _, z1, z2, z3⟩ <;> omega
  rw [e] at hq
  rcases List.mem_append.mp hq with hq | hq
  · have z := part_mem hA hq
    omega
  · rcases List.mem_cons.mp hq with e1 | hq
    · subst e1
      have hlp : q.2 - 1 ≤ l := by
        rcases hr with ⟨_, _, z, z0⟩ | ⟨q, _, z1, z2, z3⟩ <;> omega
      refine ⟨(f, l), ?_, by show f ≤ i - 1; omega, by show i - 1 + 1 ≤ l; omega⟩
      rw [en, if_pos (by omega)]
      simp
    · rcases List.mem_append.mp hq with hq | hq
      · rcases hr with ⟨z, _⟩ | ⟨r, z, z1, z2, z3⟩
        · rw [z] at hq; cases hq
        · rw [z] at hq
          have er := List.mem_singleton.mp hq
          subst er
          refine ⟨(f, l), ?_, by show f ≤ i - 1; omega, by show i - 1 + 1 ≤ l; omega⟩
          rw [en, if_pos (by omega)]
          simp
      · refine ⟨shiftR q, ?_, by show q.1 - 1 ≤ i - 1; omega, by show i - 1 + 1 ≤ q.2 - 1; omega⟩
        rw [en]
        exact List.mem_append_right _ (List.mem_map_of_mem hq)
theorem jn_right {here : List (Int × Int)} {n c i : Int} (h : PartF 0 n here) (h0 : 0 ≤ c) (h1 : c < n) (hj : Jn here i) (hc : i + 1 < c) : Jn (nextR here c) i := by
  obtain ⟨A0, Al, p, Br, B0, f, l, e, l1, l2, en, hA, hB, hl, hr⟩ := next_form h h0 h1
  obtain ⟨q, hq, q1, q2⟩ := hj
  have hlp : p.2 - 1 ≤ l := by
    rcases hr with ⟨_, _, z, z0⟩ | ⟨q, _, z1, z2, z3⟩ <;> omega
  rw [e] at hq
  rcases List.mem_append.mp hq with hq | hq
  · rcases List.mem_append.mp hq with hq | hq
    · refine ⟨q, ?_, q1, q2⟩
      rw [en]
      exact List.mem_append_left _ (List.mem_append_left _ hq)
    · rcases hl with ⟨z, _⟩ | ⟨r, z, z1, z2, z3⟩
      · rw [z] at hq; cases hq
      · rw [z] at hq
        have er := List.mem_singleton.mp hq
        subst er
        refine ⟨(f, l), ?_, by show f ≤ i; omega, by show i + 1 ≤ l; omega⟩
        rw [en, if_pos (by omega)]
        simp
  · have hfp : f ≤ p.1 := by
      rcases hl with ⟨_, _, z, z0⟩ | ⟨q, _, z1, z2, z3⟩ <;> omega
    rcases List.mem_cons.mp hq with e1 | hq
    · subst e1
      refine ⟨(f, l), ?_, by show f ≤ i; omega, by show i + 1 ≤ l; omega⟩
      rw [en, if_pos (by omega)]
      simp
    · have z := part_mem hB hq
      omega
theorem jn_run {ps : List (Int × Int)} {n i j : Int} (h : PartF 0 n ps) (hj : Jn ps i) (hij : j = i ∨ j = i + 1) : (runA ps j).1 ≤ i ∧ i + 1 ≤ (runA ps j).2 := by
  obtain ⟨q, hq, q1, q2⟩ := hj
  obtain ⟨A, B, e⟩ := List.append_of_mem hq
  subst e
  obtain ⟨m, g1, g2⟩ := PartF.split h
  have e1 : q.1 = m := g2.1
  rw [← e1] at g1
  have z := (runA_at (B := B) (i := j) g1 (by omega) (by omega)).1
  rw [z]
  exact ⟨q1, q2⟩
theorem restR_app (a b : List Int) (h : Int) : restR (a ++ b) h = restR a h ++ restR b h := by unfold restR; rw [List.filter_append]
theorem restR_nil_of {l : List Int} {h : Int} (H : ∀ m ∈ l, m < h) : restR l h = [] := by
  unfold restR
  rw [List.filter_eq_nil_iff]
  intro m hm
  have := H m hm
  simp
  omega
theorem restR_one_in {x h : Int} (H : h ≤ x) : restR [x] h = [x] := by unfold restR; simp [H]
theorem restR_one_out {x h : Int} (H : x < h) : restR [x] h = [] := by unfold restR; simp; omega
/-- the row and the row after the exchange -/
abbrev rowE (A : List Int) (x : Int) (M : List Int) (y : Int) (D : List Int) : List Int := A ++ x :: (M ++ y :: D)
theorem rowE_perm (A : List Int) (x : Int) (M : List Int) (y : Int) (D : List Int) : (rowE A y M x D).Perm (rowE A x M y D) := by
  unfold rowE
  refine List.Perm.append_left A ?_
  have h1 : (y :: (M ++ x :: D)).Perm (y :: x :: (M ++ D)) := List.Perm.cons y List.perm_middle
  have h2 : (x :: (M ++ y :: D)).Perm (x :: y :: (M ++ D)) := List.Perm.cons x List.perm_middle
  exact h1.trans ((List.Perm.swap x y _).trans h2.symm)
theorem restR_rowE (A : List Int) (x : Int) (M : List Int) (y : Int) (D : List Int) (h : Int) : restR (rowE A x M y D) h = restR A h ++ (restR [x] h ++ (restR M h ++ (restR [y] h ++ restR D h))) := by
  unfold rowE
  rw [restR_app, show x :: (M ++ y :: D) = [x] ++ (M ++ ([y] ++ D)) from rfl, restR_app, restR_app, restR_app]
/-- whoever is taller than one of the two: nothing changes -/
theorem code_tall {A M D : List Int} {x y z : Int} (hM : ∀ m ∈ M, m < x ∧ m < y) (hz : (x < z) ∨ (y < z)) : codeI (rowE A y M x D) z = codeI (rowE A x M y D) z := by
  unfold codeI codeN
  rw [restR_rowE, restR_rowE]
  have e : restR M z = [] := restR_nil_of fun m hm => by have := hM m hm; omega
  rw [e]
  rcases hz with h | h
  · rw [restR_one_out h]
    simp
  · rw [restR_one_out h]
    simp
theorem idxOf_notin {l1 l2 : List Int} {z : Int} (h : z ∉ l1) : (l1 ++ l2).idxOf z = l1.length + l2.idxOf z := by
  rw [List.idxOf_append, if_neg h]
  omega
theorem idxOf_in {l1 l2 : List Int} {z : Int} (h : z ∈ l1) : (l1 ++ l2).idxOf z = l1.idxOf z := by
  rw [List.idxOf_append, if_pos h]
/-- whoever is shorter than both: nothing changes -/
theorem code_short {A M D : List Int} {x y z : Int} (hx : z < x) (hy : z < y) : codeI (rowE A y M x D) z = codeI (rowE A x M y D) z := by
  unfold codeI codeN
  rw [restR_rowE, restR_rowE, restR_one_in (by omega : z ≤ x), restR_one_in (by omega : z ≤ y)]
  congr 1
  by_cases hA : z ∈ restR A z
  · rw [idxOf_in hA, idxOf_in hA]
  · rw [idxOf_notin hA, idxOf_notin hA]
    congr 1
    rw [idxOf_notin (l1 := [x]) (by simp; omega), idxOf_notin (l1 := [y]) (by simp; omega)]
    congr 1
    by_cases hM : z ∈ restR M z
    · rw [idxOf_in hM, idxOf_in hM]
    · rw [idxOf_notin hM, idxOf_notin hM, idxOf_notin (l1 := [x]) (by simp; omega), idxOf_notin (l1 := [y]) (by simp; omega)]
      rfl
/-- the shorter one of the two -/
theorem code_x {A M D : List Int} {x y : Int} (hM : ∀ m ∈ M, m < x ∧ m < y) (hxy : x < y) (hA : x ∉ A) : codeI (rowE A x M y D) x = (restR A x).length ∧ codeI (rowE A y M x D) x = (restR A x).length + 1 := by
  have hA' : x ∉ restR A x := fun h => hA (List.mem_filter.mp h).1
  have e : restR M x = [] := restR_nil_of fun m hm => (hM m hm).1
  refine ⟨?_, ?_⟩
  · unfold codeI codeN
    rw [restR_rowE, restR_one_in (Int.le_refl x), idxOf_notin hA', idxOf_in (l1 := [x]) (by simp)]
    simp
  · unfold codeI codeN
    rw [restR_rowE, e, restR_one_in (by omega : x ≤ y), restR_one_in (Int.le_refl x), idxOf_notin hA', idxOf_notin (l1 := [y]) (by simp; omega), idxOf_notin (l1 := []) (by simp), idxOf_in (l1 := [x]) (by simp)]
    simp
end DL
set_option Elab.async false
set_option linter.all false
set_option maxRecDepth 100000
set_option autoImplicit false
namespace DL
open PySem PySem.Spec PyProof.Rows L2
theorem code_min {ns : List Int} {z : Int} (H : ∀ n ∈ ns, z ≤ n) : codeI ns z = (ns.idxOf z : Nat) := by
  unfold codeI codeN
  rw [restR_all H]
theorem mem_rowE {A M D : List Int} {x y z : Int} : z ∈ rowE A x M y D ↔ z ∈ A ∨ z = x ∨ z ∈ M ∨ z = y ∨ z ∈ D := by
  unfold rowE
  simp only [List.mem_append, List.mem_cons]
theorem len_rowE {A M D : List Int} {x y : Int} : (rowE A x M y D).length = A.length + M.length + D.length + 2 := by
  unfold rowE
  simp only [List.length_append, List.length_cons]
  omega
theorem nd_rowE {A M D : List Int} {x y : Int} (h : (rowE A x M y D).Nodup) : x ∉ A ∧ x ∉ M ∧ x ≠ y ∧ x ∉ D ∧ y ∉ A ∧ y ∉ M ∧ y ∉ D ∧ (∀ z ∈ M, z ∉ A) ∧ (∀ z ∈ D, z ∉ A ∧ z ∉ M) := by
  unfold rowE at h
  obtain ⟨h1, h2, h3⟩ := List.nodup_append.mp h
  obtain ⟨h4, h5⟩ := List.nodup_cons.mp h2
  obtain ⟨h6, h7, h8⟩ := List.nodup_append.mp h5
  obtain ⟨h9, h10⟩ := List.nodup_cons.mp h7
  refine ⟨fun z => h3 _ z _ List.mem_cons_self rfl, fun z => h4 (List.mem_append_left _ z), fun z => h4 (by rw [z]; simp), fun z => h4 (by simp [z]), fun z => h3 _ z _ (by simp) rfl, fun z => h8 _ z _ List.mem_cons_self rfl, h9, fun z hz q => h3 _ q _ (by simp [hz]) rfl, fun z hz => ⟨fun q => h3 _ q _ (by simp [hz]) rfl, fun q => h8 _ q _ (by simp [hz]) rfl⟩⟩
theorem erase_A {A M D : List Int} {x y z : Int} (h : z ∈ A) : (rowE A x M y D).erase z = rowE (A.erase z) x M y D := by
  unfold rowE
  rw [List.erase_append_left _ h]
theorem erase_M {A M D : List Int} {x y z : Int} (hA : z ∉ A) (hx : z ≠ x) (h : z ∈ M) : (rowE A x M y D).erase z = rowE A x (M.erase z) y D := by
  unfold rowE
  rw [List.erase_append_right _ hA, List.erase_cons_tail (by simpa using fun e => hx e.symm), List.erase_append_left _ h]
theorem erase_D {A M D : List Int} {x y z : Int} (hA : z ∉ A) (hx : z ≠ x) (hM : z ∉ M) (hy : z ≠ y) : (rowE A x M y D).erase z = rowE A x M y (D.erase z) := by
  unfold rowE
  rw [List.erase_append_right _ hA, List.erase_cons_tail (by simpa using fun e => hx e.symm), List.erase_append_right _ hM, List.erase_cons_tail (by simpa using fun e => hy e.symm)]
/-- the key: an exchange stays within the runs -/
theorem join_runs : ∀ (n : Nat) (here : List (Int × Int)) (A : List Int) (x : Int) (M : List Int) (y : Int) (D : List Int), (rowE A x M y D).length = n → (rowE A x M y D).Nodup → PartF 0 n here → (∀ m ∈ M, m < x ∧ m < y) → (M ≠ [] ∨ Jn here A.length) →
    InRs (goR here (codesM (rowE A x M y D))) (codesM (rowE A y M x D))
  | 0, _, A, x, M, y, D, hl, _, _, _, _ => by rw [len_rowE] at hl; omega
  | n + 1, here, A, x, M, y, D, hl, nd, hp, hM, hj => by
    have pr := rowE_perm A x M y D
    have nd2 : (rowE A y M x D).Nodup := pr.nodup_iff.mpr nd
    obtain ⟨xA, xM, xy, xD, yA, yM, yD, MA, DA⟩ := nd_rowE nd
    cases e : srt (rowE A x M y D) with
    | nil =>
      have z := srt_len (rowE A x M y D)
      rw [e, hl] at z
      cases z
    | cons z t =>
      have e2 : srt (rowE A y M x D) = z :: t := (srt_congr pr).trans e
      have zm : z ∈ rowE A x M y D := srt_mem.mp (e ▸ List.mem_cons_self)
      have zmin : ∀ m ∈ rowE A x M y D, z ≤ m := fun m hm => by
        have hm' : m ∈ z :: t := e ▸ srt_mem.mpr hm
        rcases List.mem_cons.mp hm' with q | q
        · omega
        · have s : (z :: t).Pairwise (· ≤ ·) := e ▸ srt_sorted _
          exact (List.pairwise_cons.mp s).1 m q
      have zmin2 : ∀ m ∈ rowE A y M x D, z ≤ m := fun m hm => zmin m (pr.mem_iff.mp hm)
      rw [codes_cons nd e, codes_cons nd2 e2, code_min zmin, code_min zmin2]
      have zx : z ≤ x := zmin x (mem_rowE.mpr (.inr (.inl rfl)))
      have zy : z ≤ y := zmin y (mem_rowE.mpr (.inr (.inr (.inr (.inl rfl)))))
      have len1 : ((rowE A x M y D).erase z).length = n := by rw [List.length_erase_of_mem zm, hl]; rfl
      have nde : ((rowE A x M y D).erase z).Nodup := nd.erase z
      -- the end of each way where the code stays
      have stay : ∀ (c : Nat) (A' M' D' : List Int), (rowE A x M y D).idxOf z = c → (rowE A y M x D).idxOf z = c → (rowE A x M y D).erase z = rowE A' x M' y D' → (rowE A y M x D).erase z = rowE A' y M' x D' → (∀ m ∈ M', m < x ∧ m < y) → (M' ≠ [] ∨ Jn (nextR here c) A'.length) → c < n + 1 →
          InRs (goR here (((rowE A x M y D).idxOf z : Nat) :: codesM ((rowE A x M y D).erase z))) (((rowE A y M x D).idxOf z : Nat) :: codesM ((rowE A y M x D).erase z)) := fun c A' M' D' c1 c2 g1 g2 hM' hj' hc => by
        have np := nextR_part hp (show (0 : Int) ≤ c by omega) (by omega)
        rw [show ((n + 1 : Nat) : Int) - 1 = (n : Int) by omega] at np
        obtain ⟨b0, b1, b2, b3⟩ := run_bounds hp (show (0 : Int) ≤ c by omega) (by omega)
        rw [c1, c2, g1, g2]
        refine ⟨b1, b2, ?_⟩
        rw [g1] at len1 nde
        exact join_runs n _ A' x M' y D' len1 nde np hM' hj'
      rcases mem_rowE.mp zm with hz | hz | hz | hz | hz
      · -- in front
        have zx' : z ≠ x := fun q => xA (q ▸ hz)
        refine stay (A.idxOf z) (A.erase z) M D (by unfold rowE; exact idxOf_in hz) (by unfold rowE; exact idxOf_in hz) (erase_A hz) (erase_A hz) hM ?_ ?_
        · rcases hj with q | q
          · exact .inl q
          · refine .inr ?_
            have hi := List.idxOf_lt_length_of_mem hz
            rw [List.length_erase_of_mem hz]
            have z1 := jn_left (c := (A.idxOf z : Nat)) hp (by omega) (by rw [← hl, len_rowE]; omega) q (by omega)
            rw [show ((A.length - 1 : Nat) : Int) = (A.length : Int) - 1 by have := List.length_pos_of_mem hz; omega]
            exact z1
        · have := List.idxOf_lt_length_of_mem hz
          rw [← hl, len_rowE]; omega
      · -- the left one itself
        subst hz
        have Mn : M = [] := by
          cases M with
          | nil => rfl
          | cons m M => have := (hM m List.mem_cons_self).1; have := zmin m (mem_rowE.mpr (.inr (.inr (.inl List.mem_cons_self)))); omega
        subst Mn
        have jn : Jn here A.length := hj.resolve_left (fun q => q rfl)
        have i1 : (rowE A z [] y D).idxOf z = A.length := by unfold rowE; rw [idxOf_notin xA, List.idxOf_cons_self]; rfl
        have i2 : (rowE A y [] z D).idxOf z = A.length + 1 := by
          unfold rowE
          rw [idxOf_notin xA, List.nil_append, show y :: z :: D = [y] ++ z :: D from rfl, idxOf_notin (l1 := [y]) (by simpa using xy), List.idxOf_cons_self]
          rfl
        have g1 : (rowE A z [] y D).erase z = A ++ y :: D := by unfold rowE; rw [List.erase_append_right _ xA, List.erase_cons_head]; rfl
        have g2 : (rowE A y [] z D).erase z = A ++ y :: D := by
          unfold rowE
          rw [List.erase_append_right _ xA, List.nil_append, List.erase_cons_tail (by simpa using fun q => xy q.symm), List.erase_cons_head]
        rw [i1, i2, g1, g2]
        rw [g1] at len1 nde
        have np := nextR_part hp (show (0 : Int) ≤ (A.length : Nat) by omega) (by rw [← hl, len_rowE]; omega)
        rw [show ((n + 1 : Nat) : Int) - 1 = (n : Int) by omega] at np
        obtain ⟨b1, b2⟩ := jn_run hp jn (.inl rfl)
        refine ⟨by omega, by omega, ?_⟩
        exact inRs_self np (codes_bd n _ len1 nde)
      · -- between
        have zA := MA z hz
        have zx' : z ≠ x := fun q => xM (q ▸ hz)
        have zy' : z ≠ y := fun q => yM (q ▸ hz)
        have hi := List.idxOf_lt_length_of_mem hz
        refine stay (A.length + (1 + M.idxOf z)) A (M.erase z) D ?_ ?_ (erase_M zA zx' hz) (erase_M zA zy' hz) (fun m hm => hM m (List.mem_of_mem_erase hm)) ?_ ?_
        · unfold rowE
          rw [idxOf_notin zA, show x :: (M ++ y :: D) = [x] ++ (M ++ y :: D) from rfl, idxOf_notin (l1 := [x]) (by simpa using zx'), idxOf_in hz]
          rfl
        · unfold rowE
          rw [idxOf_notin zA, show y :: (M ++ x :: D) = [y] ++ (M ++ x :: D) from rfl, idxOf_notin (l1 := [y]) (by simpa using zy'), idxOf_in hz]
          rfl
        · by_cases hn : M.erase z = []
          · refine .inr ?_
            have l1 : M.length = 1 := by
              have := congrArg List.length hn
              rw [List.length_erase_of_mem hz] at this
              have := List.length_pos_of_mem hz
              simp at *
              omega
            have z1 := jn_new (c := ((A.length + (1 + M.idxOf z) : Nat) : Int)) hp (by omega) (by rw [← hl, len_rowE]; omega)
            rw [show ((A.length + (1 + M.idxOf z) : Nat) : Int) - 1 = (A.length : Int) by omega] at z1
            exact z1
          · exact .inl hn
        · rw [← hl, len_rowE]; omega
      · -- the right one itself
        subst hz
        have Mn : M = [] := by
          cases M with
          | nil => rfl
          | cons m M => have := (hM m List.mem_cons_self).2; have := zmin m (mem_rowE.mpr (.inr (.inr (.inl List.mem_cons_self)))); omega
        subst Mn
        have jn : Jn here A.length := hj.resolve_left (fun q => q rfl)
        have i1 : (rowE A z [] x D).idxOf z = A.length := by unfold rowE; rw [idxOf_notin yA, List.idxOf_cons_self]; rfl
        have i2 : (rowE A x [] z D).idxOf z = A.length + 1 := by
          unfold rowE
          rw [idxOf_notin yA, List.nil_append, show x :: z :: D = [x] ++ z :: D from rfl, idxOf_notin (l1 := [x]) (by simpa using fun q => xy q.symm), List.idxOf_cons_self]
          rfl
        have g1 : (rowE A z [] x D).erase z = A ++ x :: D := by unfold rowE; rw [List.erase_append_right _ yA, List.erase_cons_head]; rfl
        have g2 : (rowE A x [] z D).erase z = A ++ x :: D := by
          unfold rowE
          rw [List.erase_append_right _ yA, List.nil_append, List.erase_cons_tail (by simpa using xy), List.erase_cons_head]
        rw [i1, i2, g1, g2]
        rw [g2] at len1 nde
        have np := nextR_part hp (show (0 : Int) ≤ (A.length + 1 : Nat) by omega) (by rw [← hl, len_rowE]; omega)
        rw [show ((n + 1 : Nat) : Int) - 1 = (n : Int) by omega] at np
        obtain ⟨b1, b2⟩ := jn_run hp jn (j := ((A.length + 1 : Nat) : Int)) (.inr (by omega))
        refine ⟨by omega, by omega, ?_⟩
        exact inRs_self np (codes_bd n _ len1 nde)
      · -- behind
        obtain ⟨zA, zM⟩ := DA z hz
        have zx' : z ≠ x := fun q => xD (q ▸ hz)
        have zy' : z ≠ y := fun q => yD (q ▸ hz)
        have hi := List.idxOf_lt_length_of_mem hz
        refine stay (A.length + (1 + (M.length + (1 + D.idxOf z)))) A M (D.erase z) ?_ ?_ (erase_D zA zx' zM zy') (erase_D zA zy' zM zx') hM ?_ ?_
        · unfold rowE
          rw [idxOf_notin zA, show x :: (M ++ y :: D) = [x] ++ (M ++ ([y] ++ D)) from rfl, idxOf_notin (l1 := [x]) (by simpa using zx'), idxOf_notin zM, idxOf_notin (l1 := [y]) (by simpa using zy')]
          rfl
        · unfold rowE
          rw [idxOf_notin zA, show y :: (M ++ x :: D) = [y] ++ (M ++ ([x] ++ D)) from rfl, idxOf_notin (l1 := [y]) (by simpa using zy'), idxOf_notin zM, idxOf_notin (l1 := [x]) (by simpa using zx')]
          rfl
        · rcases hj with q | q
          · exact .inl q
          · refine .inr ?_
            exact jn_right (c := ((A.length + (1 + (M.length + (1 + D.idxOf z))) : Nat) : Int)) hp (by omega) (by rw [← hl, len_rowE]; omega) q (by omega)
        · rw [← hl, len_rowE]; omega
/-- an exchange: the same runs -/
theorem exch_in {A M D : List Int} {x y : Int} (nd : (rowE A x M y D).Nodup) (hM : ∀ m ∈ M, m < x ∧ m < y) (hn : M ≠ []) : InRs (runsM (rowE A x M y D)) (codesM (rowE A y M x D)) := by
  unfold runsM runsC
  rw [codes_len]
  exact join_runs _ _ A x M y D rfl nd (iniR_part _) hM (.inl hn)
theorem exch_mate {A M D : List Int} {x y : Int} (nd : (rowE A x M y D).Nodup) (hM : ∀ m ∈ M, m < x ∧ m < y) (hn : M ≠ []) : Mate (rowE A x M y D) (rowE A y M x D) := by
  have h := exch_in nd hM hn
  have pr := rowE_perm A x M y D
  refine ⟨pr.nodup_iff.mpr nd, srt_congr pr, ?_, pr.length_eq⟩
  unfold runsM runsC at h ⊢
  rw [codes_len] at h
  rw [codes_len, codes_len, pr.length_eq]
  exact (goR_same (iniR_part _) (codes_bd _ _ rfl nd) h).1
end DL
set_option Elab.async false
set_option linter.all false
set_option maxRecDepth 100000
set_option autoImplicit false
namespace DL
open PySem PySem.Spec PyProof.Rows L2
def minI (a b : Int) : Int := if b < a then b else a
def betw (ns : List Int) (i j : Nat) : List Int := (ns.drop (i + 1)).take (j - (i + 1))
def seesN (ns : List Int) (i j : Nat) : Bool := (betw ns i j).all (fun z => decide (z < minI (ns.getD i 0) (ns.getD j 0)))
def sightsAt (ns : List Int) (i : Nat) : List (Nat × Nat) := ((List.range' (i + 1) (ns.length - (i + 1))).filter (seesN ns i)).map (fun j => (i, j))
def sightsM (ns : List Int) : List (Nat × Nat) := (List.range ns.length).flatMap (sightsAt ns)
def exchM (ns : List Int) : List (Nat × Nat) := (sightsM ns).filter (fun p => decide (p.1 + 1 < p.2))
def swapM (ns : List Int) (i j : Nat) : List Int := ns.take i ++ [ns.getD j 0] ++ betw ns i j ++ [ns.getD i 0] ++ ns.drop (j + 1)
theorem sights_mem {ns : List Int} {i j : Nat} : (i, j) ∈ sightsM ns ↔ i < j ∧ j < ns.length ∧ seesN ns i j = true := by
  unfold sightsM sightsAt
  rw [List.mem_flatMap]
  constructor
  · rintro ⟨k, hk, h⟩
    obtain ⟨l, hl, e⟩ := List.mem_map.mp h
    obtain ⟨h1, h2⟩ := List.mem_filter.mp hl
    cases e
    have := List.mem_range'_1.mp h1
    exact ⟨by omega, by omega, h2⟩
  · rintro ⟨h1, h2, h3⟩
    exact ⟨i, List.mem_range.mpr (by omega), List.mem_map.mpr ⟨j, List.mem_filter.mpr ⟨List.mem_range'_1.mpr ⟨by omega, by omega⟩, h3⟩, rfl⟩⟩
theorem exch_mem {ns : List Int} {i j : Nat} : (i, j) ∈ exchM ns ↔ i + 1 < j ∧ j < ns.length ∧ seesN ns i j = true := by
  unfold exchM
  rw [List.mem_filter, sights_mem]
  simp only [decide_eq_true_eq]
  constructor
  · rintro ⟨⟨h1, h2, h3⟩, h4⟩; exact ⟨h4, h2, h3⟩
  · rintro ⟨h1, h2, h3⟩; exact ⟨⟨by omega, h2, h3⟩, h1⟩
theorem minI_lt {a b m : Int} : m < minI a b ↔ m < a ∧ m < b := by
  unfold minI
  split <;> omega
theorem split_at {ns : List Int} {i j : Nat} (h1 : i < j) (h2 : j < ns.length) : ns = rowE (ns.take i) (ns.getD i 0) (betw ns i j) (ns.getD j 0) (ns.drop (j + 1)) ∧ (ns.take i).length = i ∧ (betw ns i j).length = j - (i + 1) ∧ swapM ns i j = rowE (ns.take i) (ns.getD j 0) (betw ns i j) (ns.getD i 0) (ns.drop (j + 1)) := by
  have e1 : ns.drop i = ns.getD i 0 :: ns.drop (i + 1) := by
    rw [List.drop_eq_getElem_cons (by omega)]
    congr 1
    rw [List.getD_eq_getElem?_getD, List.getElem?_eq_getElem (by omega)]
    rfl
  have e2 : ns.drop (i + 1) = betw ns i j ++ ns.getD j 0 :: ns.drop (j + 1) := by
    have e3 : ns.drop j = ns.getD j 0 :: ns.drop (j + 1) := by
      rw [List.drop_eq_getElem_cons h2]
      congr 1
      rw [List.getD_eq_getElem?_getD, List.getElem?_eq_getElem h2]
      rfl
    rw [← e3]
    unfold betw
    have e4 : (ns.drop (i + 1)).drop (j - (i + 1)) = ns.drop j := by rw [List.drop_drop, show i + 1 + (j - (i + 1)) = j by omega]
    rw [← e4, List.take_append_drop]
  refine ⟨?_, List.length_take_of_le (by omega), ?_, ?_⟩
  · unfold rowE
    rw [← e2, ← e1, List.take_append_drop]
  · unfold betw
    rw [List.length_take, List.length_drop]
    omega
  · unfold swapM rowE
    simp
theorem exch_split {ns : List Int} {i j : Nat} (h : (i, j) ∈ exchM ns) : ∃ A x M y D, ns = rowE A x M y D ∧ A.length = i ∧ M ≠ [] ∧ A.length + (M.length + 1) = j ∧ (∀ m ∈ M, m < x ∧ m < y) ∧ swapM ns i j = rowE A y M x D ∧ x = ns.getD i 0 ∧ y = ns.getD j 0 := by
  obtain ⟨h1, h2, h3⟩ := exch_mem.mp h
  obtain ⟨e1, e2, e3, e4⟩ := split_at (ns := ns) (show i < j by omega) h2
  refine ⟨_, _, _, _, _, e1, e2, fun z => ?_, by omega, fun m hm => ?_, e4, rfl, rfl⟩
  · rw [z] at e3
    simp at e3
    omega
  · have z := List.all_eq_true.mp h3 m hm
    exact minI_lt.mp (of_decide_eq_true z)
theorem getD_rowE {A M D : List Int} {x y : Int} : (rowE A x M y D).getD A.length 0 = x ∧ (rowE A x M y D).getD (A.length + (M.length + 1)) 0 = y ∧ betw (rowE A x M y D) A.length (A.length + (M.length + 1)) = M := by
  refine ⟨?_, ?_, ?_⟩
  · unfold rowE
    rw [List.getD_eq_getElem?_getD, List.getElem?_append_right (Nat.le_refl _), Nat.sub_self]
    rfl
  · unfold rowE
    rw [List.getD_eq_getElem?_getD, List.getElem?_append_right (by omega), show A.length + (M.length + 1) - A.length = M.length + 1 by omega, List.getElem?_cons_succ, List.getElem?_append_right (Nat.le_refl _), Nat.sub_self]
    rfl
  · unfold betw rowE
    rw [List.drop_append, List.drop_eq_nil_of_le (by omega), show A.length + 1 - A.length = 1 by omega]
    show (M ++ y :: D).take _ = M
    rw [show A.length + (M.length + 1) - (A.length + 1) = M.length by omega]
    exact List.take_left
theorem exch_of {A M D : List Int} {x y : Int} (hn : M ≠ []) (hM : ∀ m ∈ M, m < x ∧ m < y) : (A.length, A.length + (M.length + 1)) ∈ exchM (rowE A x M y D) := by
  obtain ⟨e1, e2, e3⟩ := getD_rowE (A := A) (M := M) (D := D) (x := x) (y := y)
  refine exch_mem.mpr ⟨?_, ?_, ?_⟩
  · have := List.length_pos_iff.mpr hn
    omega
  · rw [len_rowE]; omega
  · unfold seesN
    rw [e1, e2, e3, List.all_eq_true]
    exact fun m hm => decide_eq_true (minI_lt.mpr (hM m hm))
/-- what one exchange does -/
structure Exch (ns ts : List Int) (i j : Nat) (h d : Int) : Prop where
  mate : Mate ns ts
  inr : InRs (runsM ns) (codesM ts)
  again : (i, j) ∈ exchM ts
  hm : h ∈ ns
  step : d = 1 ∨ d = -1
  code : codeI ts h = codeI ns h + d
  rest : ∀ z ∈ ns, z ≠ h → codeI ts z = codeI ns z
theorem exch_does {ns : List Int} {i j : Nat} (nd : ns.Nodup) (h : (i, j) ∈ exchM ns) : Exch ns (swapM ns i j) i j (minI (ns.getD i 0) (ns.getD j 0)) (if ns.getD i 0 < ns.getD j 0 then 1 else -1) := by
  obtain ⟨A, x, M, y, D, e, hi, hn, hj, hM, es, ex, ey⟩ := exch_split h
  rw [es, ← ex, ← ey]
  subst e hi hj
  have mt := exch_mate nd hM hn
  have hM' : ∀ m ∈ M, m < y ∧ m < x := fun m hm => ⟨(hM m hm).2, (hM m hm).1⟩
  obtain ⟨xA, xM, xy, xD, yA, yM, yD, MA, DA⟩ := nd_rowE nd
  refine ⟨mt, exch_in nd hM hn, exch_of hn hM', ?_, ?_, ?_, fun z hz hne => ?_⟩
  · unfold minI
    split
    · exact mem_rowE.mpr (.inr (.inr (.inr (.inl rfl))))
    · exact mem_rowE.mpr (.inr (.inl rfl))
  · split
    · exact .inl rfl
    · exact .inr rfl
  · by_cases hxy : x < y
    · obtain ⟨c1, c2⟩ := code_x (D := D) hM hxy xA
      unfold minI
      rw [if_neg (by omega), if_pos hxy, c1, c2]
    · obtain ⟨c1, c2⟩ := code_x (D := D) hM' (show y < x by omega) yA
      unfold minI
      rw [if_pos (by omega), if_neg hxy, c1, c2]
      omega
  · have hz1 : z ≠ minI x y := hne
    by_cases h1 : z < x ∧ z < y
    · exact code_short h1.1 h1.2
    · refine code_tall hM ?_
      unfold minI at hz1
      split at hz1 <;> omega
end DL
namespace DL
open PySem PySem.Spec PyProof.Rows L2
theorem cut_betw {ns : List Int} {i j : Nat} (h1 : i < j) (h2 : j < ns.length) : cut ns (some ((i : Int) + 1)) (some (j : Int)) = betw ns i j := by
  unfold cut betw
  rw [show ((i : Int) + 1) = ((i + 1 : Nat) : Int) by omega, HT.sIx_nat, HT.sIx_nat, Nat.min_eq_left (by omega), Nat.min_eq_left (by omega)]
theorem at_getD {ns : List Int} {i : Nat} (h : i < ns.length) : atI (zD ns) (i : Int) = some (.int (ns.getD i 0)) := by
  refine atI_nat ?_
  rw [List.getElem?_map, List.getD_eq_getElem?_getD, List.getElem?_eq_getElem h]
  rfl
theorem rngN (i m : Nat) : rng ((i : Nat) : Int) m = (List.range' i m).map (fun (j : Nat) => PyData.int (j : Int)) := by
  unfold rng
  rw [List.range'_eq_map_range, List.map_map]
  exact List.map_congr_left fun t _ => by show PyData.int _ = PyData.int _; congr 1
theorem sightsAt_len (ns : List Int) (i : Nat) : (sightsAt ns i).length ≤ ns.length := by
  unfold sightsAt
  rw [List.length_map]
  have z := List.length_filter_le (seesN ns i) (List.range' (i + 1) (ns.length - (i + 1)))
  rw [List.length_range'] at z
  omega
theorem sights_len (ns : List Int) : ∀ i, ((List.range i).flatMap (sightsAt ns)).length ≤ i * ns.length
  | 0 => by simp
  | i + 1 => by
    rw [List.range_succ, List.flatMap_append, List.length_append, List.flatMap_cons, List.flatMap_nil, List.append_nil]
    have h1 := sights_len ns i
    have h2 := sightsAt_len ns i
    rw [Nat.succ_mul]
    omega
end DL
namespace DL
open PySem PySem.Spec PyProof.Rows L2
theorem Mate.trans {a b c : List Int} (h1 : Mate a b) (h2 : Mate b c) : Mate a c := ⟨h2.nd, h2.sr.trans h1.sr, h2.rn.trans h1.rn, h2.len.trans h1.len⟩
end DL
namespace DL
open PySem PySem.Spec PyProof.Rows L2
end DL
set_option Elab.async false
set_option linter.all false
set_option maxRecDepth 100000
set_option autoImplicit false
namespace DL
theorem runs_in {t : List Int} (hn : t.Nodup) : InRs (runsM t) (codesM t) := by
  unfold runsM runsC
  rw [codes_len]
  exact inRs_self (iniR_part _) (codes_bd t.length t rfl hn)
theorem Mate.inr {ns t : List Int} (h : Mate ns t) : InRs (runsM ns) (codesM t) := by rw [← h.rn]; exact runs_in h.nd
theorem Mate.symm {ns t : List Int} (h : Mate ns t) (hn : ns.Nodup) : Mate t ns := ⟨hn, h.sr.symm, h.rn.symm, h.len.symm⟩
end DL
set_option Elab.async false
set_option linter.all false
set_option maxRecDepth 100000
set_option maxHeartbeats 4000000
set_option autoImplicit false
namespace DL
open PySem PySem.Spec PyProof.Rows L2
variable [Tx]
theorem Calm.un65 {k : Nat} {A : Around} (c : Calm k A) : A.units + 65 < cLine := DL.un65 c.room
theorem Calm.un1 {k : Nat} {A : Around} (c : Calm k A) : A.units + 1 < cLine := DL.un1 c.room
theorem fnFx {P : Program} {w : World} {fr : PySem.W.Frag} {mg : Str → Option Value} {base : Heap} {cl : Str → Addr} {x qual : Str} {st : Stmt} {f : Addr} {fd : FuncData} {N ps : List Str} {k : Nat} {u : FS} (F : Fun fr x qual st f fd) (S : FnScope N ps (defScope st))
    (body : ∀ (cdv : Value) (A : Around) (outer : List Env) (s : Shared) (H : Hp) (E : XK) (ρ : Root) (dx : DX), ρ.cl = cl → Calm k (A.deeper (envOfC qual (defScope st) s.heap.objs.size f cdv)) →
      Takes (cxOf (L2.CX P w) P w fr mg base N qual (defScope st) f cdv A outer s H E) (liftX ⟨fr, ρ⟩ dx) →
      ∃ v, PFSs ρ (cxOf (L2.CX P w) P w fr mg base N qual (defScope st) f cdv A outer s H E) dx (defBody st) v ∧ v = u) : FnG P w fr mg base (L2.CX P w) (k + 1) f fd ps (spF fr cl ps.length (mkFn N.length u)) :=
  fnF F S fun cdv A outer s H E ρ dx hcl hr tk => by
    obtain ⟨v, h, e⟩ := body cdv A outer s H E ρ dx hcl hr tk
    rw [← e]
    exact h
theorem takes_no {X : Cx} {K : KR} : Takes X (liftX K dx0) := fun u s' ⟨_, _, _, _, _, _, _, _, _, _, _, _, _, _, _, _, w⟩ => by
  obtain ⟨_, _, _, _, _, _, _, h, _⟩ := w
  exact h.elim
section
variable {P : Program} {w : World} {K : PySem.W.Frag} {mg mb : Str → Option Value} {k : Nat} {fa a : Addr} {fd : FuncData} {x : Str} {sp : Sp} {s₁ : Shared} {vs : List Value} {ns : List Int}
/-- what the law's call must end with -/
abbrev Won (s₁ : Shared) : Except Value Flow → Shared → Prop := fun r s' => r = .ok (.ret (.bool true)) ∧ OldK s₁.heap s'.heap ∧ s'.os = s₁.os ∧ AllBare s'.gens
/-- .. while H, which tracks the script alone, stands for the heap -/
theorem law_over (KX : K.In s₁.heap) (hns : s₁.heap.Ns mainGlobals mg) (hb : s₁.heap.Ns builtinsNs mb) (hbb : ∀ x : Str, x ≠ "__name__" → mb x = bootBuiltins x) (hlim : s₁.heap.NoLimit) (hg : s₁.gens = #[])
    (ha : s₁.heap.get? a = some { cls := .type "list", data := .seq vs.toArray }) (hr : Room k callerA)
    (F : ∀ base : Heap, K.In base → base.Ns mainGlobals mg → FnG P w K mg base (L2.CX P w) k fa fd [x] sp) (hbind : ∀ (s : Shared) (u : Value), BindsTo s fd ⟨[u], []⟩ [(x, u)])
    {H : Hp} (hsp : sp [.ref a] H (fun v _ => v = .bl true) fun _ _ _ => False) (hok : HOk P w H s₁.heap) (only : ∀ b u, H b = some u → b = a ∧ K.lookup a = none ∧ ∃ o xs, u = .frz o (.lst xs)) :
    codeAny (model P w) callerA (.call (.ref fa) ⟨[.ref a], []⟩) (Won s₁) s₁ := by
  have plain : ∀ {b : Addr} {o : Obj}, s₁.heap.get? b = some o → (∃ es ep, o.data = .dict es ep) ∨ K.lookup b = some o → H b = none := fun {b o} e h => by
    cases q : H b with
    | none => rfl
    | some u =>
      obtain ⟨e1, e2, _⟩ := only b u q
      subst e1
      rcases h with ⟨es, ep, d⟩ | h
      · rw [ha] at e
        cases e
        cases (show Data.seq vs.toArray _ = Data.dict es ep from d)
      · rw [e2] at h
        cases h
  have names : ∀ {b : Addr} {m : Str → Option Value}, s₁.heap.Ns b m → (hidT s₁.heap H).Ns b m := fun {b m} ⟨o, es, ep, e, d, r⟩ => ⟨o, es, ep, hidT_get e (plain e (.inl ⟨es, ep, d⟩)), d, r⟩
  have kin : K.In (hidT s₁.heap H) := fun b o e => hidT_get (KX b o e) (plain (KX b o e) (.inr e))
  obtain ⟨mc, l1, l2⟩ := hlim
  have e0 : Env0 P w K mg (hidT s₁.heap H) callerA [] s₁ H := ⟨rfl, ⟨kin, names hns, ⟨mb, names hb, hbb⟩, ⟨mc, names l1, l2⟩⟩, fun b o e => of_hidT e, Nat.le_of_eq (hidT_size _ _), trivial, fun b hb => (List.not_mem_nil hb).elim, hok, .of_eq hg⟩
  refine codeAny_mono ((F _ kin (names hns)).goes callerA [] s₁ H ⟨[.ref a], []⟩ [.ref a] [.ref a] _ _ ⟨hr, rfl⟩ e0 (hbind s₁ (.ref a)) (.cons rfl .nil) hsp) fun r s' h => ?_
  match r, h with
  | .error e, h =>
    obtain ⟨_, _, _, _, _, _, _, _, _, _, _, _, z⟩ := h
    exact z.elim
  | .ok .next, h => exact h.elim
  | .ok .brk, h => exact h.elim
  | .ok .cont, h => exact h.elim
  | .ok (.ret u), ⟨v, H', os, bare, un, hok', r', q⟩ =>
    have q : v = .bl true := q
    subst q
    obtain rfl : u = Value.bool true := r'
    refine ⟨rfl, OldK.of_keep fun b o e => ?_, os, bare⟩
    cases q : H b with
    | none => exact un.keep b o e q (fun z => (List.not_mem_nil z).elim) (by simp)
    | some z =>
      obtain ⟨_, _, ob, xs, rfl⟩ := only b z q
      obtain ⟨e1, _⟩ := hok b _ q
      obtain ⟨e2, _⟩ := hok' b _ (un.frzs b ob _ q)
      rw [e] at e1
      cases e1
      exact e2
theorem law_done (KX : K.In s₁.heap) (hns : s₁.heap.Ns mainGlobals mg) (hb : s₁.heap.Ns builtinsNs mb) (hbb : ∀ x : Str, x ≠ "__name__" → mb x = bootBuiltins x) (hlim : s₁.heap.NoLimit) (hg : s₁.gens = #[])
    (ha : s₁.heap.get? a = some { cls := .type "list", data := .seq vs.toArray }) (hi : IntsAre vs ns) (hl : ns.length ≤ sizeLine) (hr : Room k callerA)
    (F : ∀ base : Heap, K.In base → base.Ns mainGlobals mg → FnG P w K mg base (L2.CX P w) k fa fd [x] sp) (hbind : ∀ (s : Shared) (u : Value), BindsTo s fd ⟨[u], []⟩ [(x, u)])
    (hsp : ∀ H : Hp, SqL K H a (ns.map V.int) → sp [.ref a] H (fun v _ => v = .bl true) fun _ _ _ => False) : codeAny (model P w) callerA (.call (.ref fa) ⟨[.ref a], []⟩) (Won s₁) s₁ := by
  have rv := vals_ints hi
  cases hk : K.lookup a with
  | some o =>
    have e := KX a o hk
    rw [ha] at e
    cases e
    refine law_over KX hns hb hbb hlim hg ha hr F hbind (hsp (fun _ => none) (.inr ⟨_, vs.toArray, _, hk, rfl, rfl, rfl, ?_, ?_⟩)) (fun b u z => nomatch z) fun b u z => nomatch z
    · rw [List.size_toArray, hi.length]; exact hl
    · simpa using rv
  | none =>
    have at_ : ∀ {b : Addr} {u : HO}, upd (fun _ => none) a (.frz { cls := .type "list", data := .seq vs.toArray } (.lst (ns.map V.int))) b = some u → b = a ∧ u = .frz { cls := .type "list", data := .seq vs.toArray } (.lst (ns.map V.int)) := fun {b u} z => by
      by_cases hb : b = a
      · subst hb
        rw [upd_same] at z
        exact ⟨rfl, (Option.some.inj z).symm⟩
      · rw [upd_ne hb] at z
        cases z
    refine law_over KX hns hb hbb hlim hg ha hr F hbind (hsp (upd (fun _ => none) a (.frz { cls := .type "list", data := .seq vs.toArray } (.lst (ns.map V.int)))) (.inl (.inr ⟨_, upd_same⟩))) (fun b u z => ?_) fun b u z => ?_
    · obtain ⟨rfl, rfl⟩ := at_ z
      exact ⟨ha, by rw [List.length_map]; exact hl, vs, _, rv, ha⟩
    · obtain ⟨rfl, rfl⟩ := at_ z
      exact ⟨rfl, hk, _, _, rfl⟩
end
/-- the law's own call -/
theorem law_start {K : PySem.W.Frag} (ek : K = Tx.fr) {cl : Str → Addr} {H : Hp} {a : Addr} {ns : List Int} {f : Fn} {E : XK} (hS : SqL K H a (ns.map V.int)) (hf : f [.s ns] [] = .ok (.dat (.bool true)) []) : spF K cl 1 f [.ref a] H (fun v _ => v = .bl true) E := by
  refine ⟨H, fun _ => none, [], [], [.s ns], rfl, ?_, .cons ⟨a, rfl, hS⟩ .nil, (by rw [hf]; intro z; cases z), ?_, ?_⟩
  · exact { tx := ek, rb := Same.refl _, ro := (fun _ _ e => e), rp := ⟨[], (List.append_nil _).symm⟩, ot := (fun _ _ e => nomatch e), fb := Same.refl _, bh := Same.refl _, fo := (fun _ _ e => nomatch e), pre := ⟨[], rfl⟩, len := rfl, nd := List.nodup_nil, lv := (fun _ h => nomatch h), nb := (fun j a ct h => by simp at h), ce := (fun j a ct h => by simp at h), sl := (fun i r h => by simp at h), tm := (fun _ h => nomatch h), sln := rfl }
  · intro v H' q bx' B' al' ce' e _ _ hr
    rw [hf] at e
    cases e
    exact dq_bool hr
  · intro n cls d H' bx' B' al' ce' e
    rw [hf] at e
    cases e
theorem walkF {l : PySem.W.OpenLaw} {n k : Nat} {q : Program} {loose : List Str} {XP : (Str → Option Value) → Heap → Prop} {YP : World → Heap → Prop} {d : DefRec} {x : Str} {fn : Fn}
    (hn : l.most = some n) (hn2 : n ≤ sizeLine) (hdf : d.params.defaults = []) (hr : Room k callerA) (hf : ∀ ns : List Int, ns.length ≤ n → fn [.s ns] [] = .ok (.dat (.bool true)) [])
    (F : ∀ (w : World) (mg : Str → Option Value) (fa : Addr) (h : Heap), YP w h → h.Ns mainGlobals mg → mg d.name = some (.ref fa) →
      ∃ (K : PySem.W.Frag) (fd : FuncData) (cl : Str → Addr), K.In h ∧ (∀ (s : Shared) (u : Value), BindsTo s fd ⟨[u], []⟩ [(x, u)]) ∧
        ∀ base : Heap, K.In base → base.Ns mainGlobals mg → FnG l.prog w K mg base (L2.CX l.prog w) k fa fd [x] (@spF ⟨K⟩ K cl 1 fn)) :
    PySem.W.WalkO q loose XP YP l.row.toRowW d [] (fun f vs => PySem.call f vs) := by
  refine Att.attach_call hn hdf fun w s₀ s₁ mg mb fa o pm cd doc a vs ns G Y ho hd hcd hmg hobj hints hlen hg => ?_
  obtain ⟨K, fd, cl, KX, hb, hF⟩ := F w mg fa _ Y G.T.g hmg
  exact law_done KX G.T.g G.T.b G.T.builtins G.T.nolimit hg hobj hints (Nat.le_trans hlen hn2) hr hF hb fun H hS => @law_start ⟨K⟩ K rfl _ _ _ _ _ _ hS (hf ns hlen)
end DL
set_option Elab.async false
set_option linter.all false
set_option maxRecDepth 100000
set_option maxHeartbeats 4000000
set_option autoImplicit false
namespace DL
open PySem PySem.Spec PyProof.Rows L2
variable [Tx]
@[simp] theorem isa_int_int : isaB "int" "int" = true := by decide
@[simp] theorem isa_int_bool : isaB "int" "bool" = false := by decide
@[simp] theorem isa_int_list : isaB "int" "list" = false := by decide
@[simp] theorem isa_int_tuple : isaB "int" "tuple" = false := by decide
@[simp] theorem isa_int_str : isaB "int" "str" = false := by decide
@[simp] theorem isa_bool_int : isaB "bool" "int" = true := by decide
@[simp] theorem isa_bool_bool : isaB "bool" "bool" = true := by decide
@[simp] theorem isa_bool_list : isaB "bool" "list" = false := by decide
@[simp] theorem isa_bool_tuple : isaB "bool" "tuple" = false := by decide
@[simp] theorem isa_bool_str : isaB "bool" "str" = false := by decide
@[simp] theorem isa_list_int : isaB "list" "int" = false := by decide
@[simp] theorem isa_list_bool : isaB "list" "bool" = false := by decide
@[simp] theorem isa_list_list : isaB "list" "list" = true := by decide
@[simp] theorem isa_list_tuple : isaB "list" "tuple" = false := by decide
@[simp] theorem isa_list_str : isaB "list" "str" = false := by decide
@[simp] theorem isa_tuple_int : isaB "tuple" "int" = false := by decide
@[simp] theorem isa_tuple_bool : isaB "tuple" "bool" = false := by decide
@[simp] theorem isa_tuple_list : isaB "tuple" "list" = false := by decide
@[simp] theorem isa_tuple_tuple : isaB "tuple" "tuple" = true := by decide
@[simp] theorem isa_tuple_str : isaB "tuple" "str" = false := by decide
@[simp] theorem isa_str_int : isaB "str" "int" = false := by decide
@[simp] theorem isa_str_bool : isaB "str" "bool" = false := by decide
@[simp] theorem isa_str_list : isaB "str" "list" = false := by decide
@[simp] theorem isa_str_tuple : isaB "str" "tuple" = false := by decide
@[simp] theorem isa_str_str : isaB "str" "str" = true := by decide
@[simp] theorem isa_NoneType_int : isaB "NoneType" "int" = false := by decide
@[simp] theorem isa_NoneType_bool : isaB "NoneType" "bool" = false := by decide
@[simp] theorem isa_NoneType_list : isaB "NoneType" "list" = false := by decide
@[simp] theorem isa_NoneType_tuple : isaB "NoneType" "tuple" = false := by decide
@[simp] theorem isa_NoneType_str : isaB "NoneType" "str" = false := by decide
def opIsB : Op2 := fun _ r1 r2 => match r1, r2 with
  | .d (.bool a), .d (.bool b) => some (.d (.bool (decide (a = b))))
  | .d .none, .d (.bool _) => some (.d (.bool false))
  | .d (.int _), .d (.bool _) => some (.d (.bool false))
  | _, _ => none
@[simp] theorem opIsB_b (g : G) (a b : Bool) : opIsB g (.d (.bool a)) (.d (.bool b)) = some (.d (.bool (decide (a = b)))) := id rfl
@[simp] theorem opIsB_n (g : G) (b : Bool) : opIsB g (.d .none) (.d (.bool b)) = some (.d (.bool false)) := id rfl
@[simp] theorem opIsB_i (g : G) (i : Int) (b : Bool) : opIsB g (.d (.int i)) (.d (.bool b)) = some (.d (.bool false)) := id rfl
end DL
set_option Elab.async false
set_option linter.all false
set_option maxRecDepth 100000
set_option autoImplicit false
namespace DL
open PySem PySem.W PySem.Spec PySem.Calls PyProof.Rows
theorem exm_all {K : Frag} {cls : Value} : ∀ {cs : List Value} {b : Bool}, exmAny K cls cs = some b → ∀ c ∈ cs, ∃ v, exmOne K cls c = some v
  | [], _, _, _, h => by cases h
  | c :: cs, b, hx, z, hz => by
    obtain ⟨b1, d1, x1, y1, _⟩ := exmAny_cons hx
    rcases List.mem_cons.mp hz with q | q
    · subst q; exact ⟨b1, x1⟩
    · exact exm_all y1 z q
theorem exm_loop1 {M : Model} {K : Frag} {cls : Value} {A : Around} {E : Value → Shared → Prop} {Q : PUnit → Shared → Prop} {s : Shared} (X : K.In s.heap) (f : Sem (ForInStep PUnit)) (q : Q PUnit.unit s) : ∀ (cs : List Value), (∀ c ∈ cs, ∃ v, exmOne K cls c = some v) →
    wpAny M A (forIn cs PUnit.unit fun c (_ : PUnit) => do
          let r ← isExcClass c
          if (!r) = true then f else pure (ForInStep.yield PUnit.unit)) Q E s
  | [], _ => by rw [List.forIn_nil]; exact wpAny_pure q
  | c :: cs, h => by
    obtain ⟨v, hv⟩ := h c List.mem_cons_self
    obtain ⟨e1, _⟩ := exm_cls (M := M) X hv
    rw [List.forIn_cons]
    refine wpAny_bind (wpAny_bind (e1.here ?_))
    rw [if_neg (by decide)]
    refine wpAny_pure ?_
    exact exm_loop1 X f q cs fun z hz => h z (List.mem_cons_of_mem _ hz)
theorem exm_loop2 {M : Model} {K : Frag} {cls : Value} {A : Around} {E : Value → Shared → Prop} {Q : Option Bool × Unit → Shared → Prop} {s : Shared} (X : K.In s.heap) : ∀ (cs : List Value) (b : Bool), exmAny K cls cs = some b → Q (if b then some true else none, ()) s →
    wpAny M A (forIn cs ((none, ()) : Option Bool × Unit) fun c (_ : Option Bool × Unit) => do
            let r ← isSubtype cls c
            if r = true then pure (ForInStep.done (some true, ())) else pure (ForInStep.yield (none, ()))) Q E s
  | [], b, hx, q => by
    rw [List.forIn_nil]
    have : some false = some b := hx
    cases this
    exact wpAny_pure q
  | c :: cs, b, hx, q => by
    obtain ⟨b1, d1, x1, y1, rfl⟩ := exmAny_cons hx
    obtain ⟨_, S1⟩ := exm_cls (M := M) X x1
    rw [List.forIn_cons]
    refine wpAny_bind (wpAny_bind (S1.here ?_))
    cases b1 with
    | true =>
      rw [if_pos rfl]
      refine wpAny_pure ?_
      exact wpAny_pure q
    | false =>
      rw [if_neg (by decide)]
      refine wpAny_pure ?_
      exact exm_loop2 X cs d1 y1 q
theorem exm_tup {M : Model} {K : Frag} {cs : List Value} {cls : Value} {tp e : Addr} {b : Bool} {h : Heap} (X : K.In h) (LT : Looks M h (typeOf (.ref e)) cls) (hp : h.get? tp = some { cls := .type "tuple", data := .seq cs.toArray }) (hx : exmAny K cls cs = some b) :
    Looks M h (excMatches (.ref e) (.ref tp)) b := by
  intro A Q E s k₀ q
  obtain ⟨hh, g, d, tk, os⟩ := s
  have k : ∀ b o, h.get? b = some o → hh.get? b = some o := k₀
  have LT0 : Looks M h (isInstance (.ref tp) (.type "tuple")) true := ((Looks.ld hp).andThen .now).andThen (Looks.of_pure isSubtype_tuple_tuple)
  have LT := LT.keeps k
  have LT0 := LT0.keeps k
  have hp' := k _ _ hp
  unfold excMatches
  refine wpAny_bind (LT0.at ?_)
  dsimp only
  rw [if_pos rfl]
  first
    | refine wpAny_bind (wpAny_seqItems hp' rfl ?_)
    | refine wpAny_bind (wpAny_bind (wpAny_seqItems hp' rfl (wpAny_pure ?_)))
  dsimp only [Option.getD_some, Option.getD]
  have XX : K.In hh := X.keeps k
  refine wpAny_bind (wpAny_pure ?_)
  refine wpAny_bind (exm_loop1 (s := ⟨hh, g, d, tk, os⟩) XX _ ?_ cs (exm_all hx))
  refine wpAny_bind (LT.at ?_)
  refine wpAny_bind (exm_loop2 (s := ⟨hh, g, d, tk, os⟩) XX cs b hx ?_)
  cases b with
  | true => exact wpAny_pure q
  | false => exact wpAny_pure q
end DL
set_option Elab.async false
set_option linter.all false
set_option maxRecDepth 100000
set_option maxHeartbeats 2000000
set_option autoImplicit false
namespace DL
open PySem PySem.Spec PyProof.Rows L2
theorem flying_keeps {base h h' : Heap} {l : List Env} {e : Addr} {Z : Obj → Prop} (x : HandSPX.FlyingZ base l e Z h) (k : ∀ b o, h.get? b = some o → h'.get? b = some o) : HandSPX.FlyingZ base l e Z h' := by
  obtain ⟨f1, f2, f3, oe, vs, T, oT, ts, he, hz, hd, h1, hnT, hTe, hT, hdT, h3⟩ := x
  exact ⟨fun b o q => k b o (f1 b o q), f2, f3.of_keeps fun b o q _ => ⟨o, k b o q, rfl⟩, oe, vs, T, oT, ts, k _ _ he, hz, hd, h1, hnT, hTe, k _ _ hT, hdT, h3⟩
theorem upto_keeps {h h' : Heap} (k : ∀ b o, h.get? b = some o → h'.get? b = some o) : h.UpToSlots h' := fun b o q _ => ⟨o.slots, k b o q⟩
/-- an untracked object that was not there at the start is tracked from now on -/
theorem inv_take0 {X : Cx} {pins : List (Addr × Obj)} {σ : L2.St} {H : Hp} {s : Shared} {a : Addr} {o : HO} (I : Inv X pins σ H s) (h0 : X.s_0.heap.get? a = none) (hn : H a = none) (hL : a ≠ X.env.locals) (hc : ∀ x c, X.env.cells.lookup x = some c → c ≠ a) (hp : ∀ p ∈ X.pn ++ pins, p.1 ≠ a)
    (new : ObjOk X.prog X.w (upd H a o) s.heap a o) : Inv X pins σ (upd H a o) s := by
  have nit : ∀ b u, H b = some u → b ≠ a := fun b u e z => by rw [z, hn] at e; cases e
  have up : ∀ b u, H b = some u → upd H a o b = some u := fun b u e => by rw [upd_ne (nit b u e)]; exact e
  have ne0 : ∀ b ob, X.s_0.heap.get? b = some ob → b ≠ a := fun b ob e z => by rw [z, h0] at e; cases e
  refine ⟨I.ok, I.os, I.bare, ⟨I.base.keep, I.base.slot, fun b ob e n hx => ?_, I.base.there, fun b xs e => up b _ (I.base.tups b xs e), fun b ob u e => up b _ (I.base.frzs b ob u e), fun b ps e => ?_⟩, I.loc, I.cell, ?_, fun x c e => ?_, fun p hp' => ?_, fun b u e => ?_, I.len⟩
  · rw [upd_ne (ne0 b ob e)]
    exact I.base.free b ob e n hx
  · obtain ⟨more, q⟩ := I.base.tbls b ps e
    exact ⟨more, up b _ q⟩
  · rw [upd_ne (Ne.symm hL)]; exact I.free
  · rw [upd_ne (hc x c e)]; exact I.freeC x c e
  · obtain ⟨p1, p2, p3⟩ := I.pin p hp'
    exact ⟨p1, by rw [upd_ne (hp p hp')]; exact p2, p3⟩
  · by_cases hb : b = a
    · rw [hb, upd_same] at e
      cases e
      rw [hb]
      exact new
    · rw [upd_ne hb] at e
      exact (I.hok b u e).stay (fun c v _ q => q) (fun c q => up c _ q) fun c _ q => up c _ q
inductive NmL (X : Cx) : List Expr → List Value → Prop
  | nil : NmL X [] []
  | cons {x : Str} {c : Value} {np : Pos} {es : List Expr} {cs : List Value} (hc : Names X x c) (r : NmL X es cs) : NmL X (.Name x np :: es) (c :: cs)
theorem NmL.len {X : Cx} {es : List Expr} {cs : List Value} (h : NmL X es cs) : cs.length = es.length := by
  induction h with
  | nil => rfl
  | cons _ _ ih => simp [ih]
/-- what a clause's test answers -/
def TestOk (X : Cx) (te : Expr) (m : Value → Option Bool) : Prop := ∀ (a : Addr) (oe : Obj) (pn : List (Addr × Obj)) (σ : L2.St) (H : Hp) (s : Shared) (cls : Value) (b : Bool) (Q : Bool → Shared → Prop) (E : Value → Shared → Prop),
  Inv (X.suite a ((a, oe) :: pn)) [] σ H s → X.K.In s.heap → PySem.W.Looks (model X.prog X.w) s.heap (typeOf (.ref a)) cls → m cls = some b → (∀ h', (∀ q o, s.heap.get? q = some o → h'.get? q = some o) → Q b { s with heap := h' }) →
  wpAny (model X.prog X.w) (X.A.mark (some (.ref a))) (eval te X.env) (fun c s₁ => wpAny (model X.prog X.w) (X.A.mark (some (.ref a))) (excMatches (.ref a) c) Q E s₁) E s
theorem name_in {X : Cx} {a : Addr} {oe : Obj} {pn : List (Addr × Obj)} {σ : L2.St} {H : Hp} {s : Shared} {x : Str} {c : Value} {np : Pos} {Q : Value → Shared → Prop} {E : Value → Shared → Prop} (hc : Names X x c) (S : Inv (X.suite a ((a, oe) :: pn)) [] σ H s) (q : Q c s) :
    wpAny (model X.prog X.w) (X.A.mark (some (.ref a))) (eval (.Name x np) X.env) Q E s := by
  obtain ⟨hg, hdbg, hm | ⟨hm, hv, hnn⟩⟩ := hc
  · exact ld_glob (X := X.suite a ((a, oe) :: pn)) S hg hm q hdbg
  · exact ld_blt (X := X.suite a ((a, oe) :: pn)) S hg hm hv q hnn hdbg
theorem items_in {X : Cx} {a : Addr} {oe : Obj} {pn : List (Addr × Obj)} {σ : L2.St} {H : Hp} {s : Shared} {pos : Pos} {E : Value → Shared → Prop} (S : Inv (X.suite a ((a, oe) :: pn)) [] σ H s) {es : List Expr} {cs : List Value} (h : NmL X es cs) : ∀ {Q : List Value → Shared → Prop}, Q cs s →
    wpAny (model X.prog X.w) (X.A.mark (some (.ref a))) (spliced (backTo pos (starEach es X.env))) Q E s := by
  induction h with
  | nil => exact fun q => wpAny_items_nil q
  | cons hc _ ih => exact fun q => wpAny_items_cons (name_in hc S (ih q))
theorem test_tup {X : Cx} {es : List Expr} {cs : List Value} {kk : Nat} {tpos : Pos} (h : NmL X es cs) (hl : es.length ≤ 100) : TestOk X (.Tuple es kk tpos) (fun cls => PySem.W.exmAny X.K cls cs) := fun a oe pn σ H s cls b Q E S K LT hb q => by
  refine wpAny_Tuple (items_in S h ⟨by rw [h.len, sizeLine_eq]; omega, ?_⟩)
  have kp : ∀ q o, s.heap.get? q = some o → (s.heap.push { cls := .type "tuple", data := .seq cs.toArray }).get? q = some o := fun _ _ z => Heap.get?_push_of_some _ z
  exact (exm_tup (K.keeps kp) (LT.keeps kp) (Heap.get?_push_size s.heap rfl) hb).here (q _ kp)
/-- what a clause wishes: the exception is kept as o says -/
def wOn (m : Value → Option Bool) (i : Nat) (ts : Addr → Value → Option Addr → TS) (o : Addr → Value → Option Addr → HO) (Wout : WX) (D : Ends) : WX := fun cls d σ H =>
  ∃ b, m cls = some b ∧ (b = true → ∀ a, H a = none → ts a cls d { nx := fun σ' H' => D.nx (σ'.set i none) (upd H' a (o a cls d)), rt := D.rt, bk := fun σ' H' => D.bk (σ'.set i none) H', ct := fun σ' H' => D.ct (σ'.set i none) H' } (σ.set i (some (.ref a))) H) ∧
    (b = false → Wout cls d σ H)
section
variable {X : Cx} {n : Str} {te : Expr} {m : Value → Option Bool} {i : Nat} {body suite : List Stmt} {b₀ : Stmt} {np pos pos' : Pos} {tb : WX → TS} {ts : Addr → Value → Option Addr → TS} {Wout : WX} {o : Addr → Value → Option Addr → HO}
theorem ps_try_on (hs : X.stack = X.env :: X.outer) (hf : X.env.frame = some X.env.locals) (hex : X.ex = []) (hN : X.N.Nodup) (hi : X.N[i]? = some n) (hln : X.env.kindOf n = some .local) (ht : TestOk X te m) (tk : Takes X Wout)
    (ho : ∀ (a : Addr) (cls : Value) (d : Option Addr) (oe : Obj) (h : Heap) (H : Hp), Zc cls d oe → (∃ vs, oe.data = .fields vs) → h.get? a = some oe → m cls = some true → ObjOk X.prog X.w H h a (o a cls d))
    (hb : ∀ (W : WX) (pn : List (Addr × Obj)) (xe : Value → Shared → Prop), Takes (X.tr pn xe) W → PassesOwn (model X.prog X.w) X.A X.env xe → PSs (X.tr pn xe) body (tb W))
    (hsu : ∀ (a : Addr) (oe : Obj) (cls : Value) (d : Option Addr) (pn : List (Addr × Obj)), Zc cls d oe → (∃ vs, oe.data = .fields vs) → PSs (X.suite a ((a, oe) :: pn)) (b₀ :: suite) (ts a cls d)) :
    PS X (.Try body [.ExceptHandler (some te) (some n) (b₀ :: suite) pos'] [] [] pos) (fun D σ H => tb (wOn m i ts o Wout D) D σ H) := by
  refine ⟨fun pins s σ H D I h => ?_⟩
  have ok := I.ok
  have hfr : X.A.frames = some (X.env :: X.outer) := by rw [ok.frames, hs]
  have hloc : Loc X.env.scope n := .inl hln
  refine wpAny_Try_except ?_
  refine wpAny_mono ((hb (wOn m i ts o Wout D) (X.pn ++ pins) (fun e s₁ => wpAny (model X.prog X.w) X.A (noteFrame e X.env) (fun _ s₂ => wpAny (model X.prog X.w) X.A (setFlight e none) (fun _ s₃ =>
    wpAny (model X.prog X.w) X.A (handleBy e X.env [.ExceptHandler (some te) (some n) (b₀ :: suite) pos']) (SP X pins D) X.xe s₃) X.xe s₂) X.xe s₁) (fun u s' xx => ?_) PassesOwn.looking).run [] s σ H D (I.toTry _) h) (fun f s1 hsp => ?_) (fun e s1 he => he)
  · obtain ⟨a, B, sI, pins', σ', H', cls, d, rfl, J', nb, up, sky, na, os, ag, b, hb1, hyes, hno⟩ := xx
    have J : Inv X pins σ' H' sI := J'.ofTry ok
    have sky' : Sky B (X.env :: X.outer) a (Zc cls d) X.env.locals s'.heap := by rw [← hs]; exact sky
    show wpAny (model X.prog X.w) X.A (noteFrame (.ref a) X.env) _ _ _
    refine Sky.land Zc.steady hfr hf sky' fun h3 fl3 up3 => ?_
    have J3 : Inv X pins σ' H' { s' with heap := h3 } := J.landed nb fl3.1 (up.trans up3) os ag
    obtain ⟨oe3, vs3, he3, hz3, hd3⟩ := fl3.there
    have nfr : a ∉ frs (X.env :: X.outer) := fun hm => by
      obtain ⟨_, o', e', hnf⟩ := fl3.2.2.1.mem hm
      rw [he3] at e'; cases e'
      exact hnf _ hd3
    have nL : a ≠ X.env.locals := fun z => nfr (List.mem_filterMap.mpr ⟨X.env, List.mem_cons_self, by rw [hf, z]⟩)
    have nF : a ∉ X.fs := fun hm => by
      obtain ⟨e, he, q⟩ := List.mem_filterMap.mp hm
      exact nfr (List.mem_filterMap.mpr ⟨e, List.mem_cons_of_mem _ he, q⟩)
    have nI : sI.heap.get? a = none := by
      cases e : sI.heap.get? a with
      | none => rfl
      | some q =>
        have := nb a q e (by rw [hs]; exact nfr)
        rw [fl3.2.1] at this
        cases this
    have n0 : X.s_0.heap.get? a = none := by
      cases e : X.s_0.heap.get? a with
      | none => rfl
      | some q =>
        obtain ⟨o', e'⟩ := J.base.there a q e (by rw [hex]; simp)
        rw [nI] at e'
        cases e'
    have np : ∀ p ∈ X.pn ++ pins, p.1 ≠ a := fun p hp z => by
      have := (J.pin p hp).1
      rw [z, nI] at this
      cases this
    have S3 := J3.suite he3 hd3 na nL nF
    refine wpAny_handleBy_cons (codeAny_handlers_test ?_) (by intro q; cases q)
    have LT : PySem.W.Looks (model X.prog X.w) h3 (typeOf (.ref a)) cls := fun A Q E s k q => wpAny_typeOf_ref (k _ _ he3) (by rw [hz3.1]; exact q)
    refine ht a oe3 (X.pn ++ pins) σ' H' _ cls b _ _ S3 J3.kIn LT hb1 (fun h5 k5 => ?_)
    have fl5 := flying_keeps fl3 k5
    have up5 := (up.trans up3).trans (upto_keeps k5)
    cases b with
    | true =>
      refine codeAny_handlers_suite_as ?_
      refine HandSPX.lands_againZ fl5 fun h4 fl4 up4 => ?_
      have J4 : Inv X pins σ' H' { s' with heap := h4 } := J.landed nb fl4.1 (up5.trans up4) os ag
      obtain ⟨oe4, vs4, he4, hz4, hd4⟩ := fl4.there
      have S4 := J4.suite he4 hd4 na nL nF
      refine store_ok (X := X.suite a ((a, oe4) :: (X.pn ++ pins))) (v := .ref a) S4 hN hi hloc rfl (fun s5 S5 => ?_) (.inr hln)
      refine wpAny_mono ((hsu a oe4 cls d (X.pn ++ pins) hz4 ⟨_, hd4⟩).run [] s5 _ H' _ S5 (hyes rfl a na)) (fun f s6 hsp => ?_) (fun _ _ z => False.elim z)
      have end_ : ∀ {σ6 : L2.St} {H6 : Hp} {Q : Shared → Prop}, Inv (X.suite a ((a, oe4) :: (X.pn ++ pins))) [] σ6 H6 s6 → (∀ s7, Inv X pins (σ6.set i none) H6 s7 → Q s7) →
          wpAny (model X.prog X.w) X.A (do bindName X.env n .none; unbindBehindTheSuite X.env n pos') (fun _ s7 => Q s7) X.xe s6 := fun {σ6 H6 Q} S6 hq => gone_ok (S6.unsuite ok) hN hi hln hq
      have endK : ∀ {σ6 : L2.St} {H6 : Hp} {Q : Shared → Prop}, Inv (X.suite a ((a, oe4) :: (X.pn ++ pins))) [] σ6 H6 s6 → (∀ s7, Inv X pins (σ6.set i none) (upd H6 a (o a cls d)) s7 → Q s7) →
          wpAny (model X.prog X.w) X.A (do bindName X.env n .none; unbindBehindTheSuite X.env n pos') (fun _ s7 => Q s7) X.xe s6 := fun {σ6 H6 Q} S6 hq => by
        have I6 : Inv X pins σ6 H6 s6 := S6.unsuite ok
        have p6 := S6.pin (a, oe4) (by simp [Cx.suite])
        refine gone_ok (inv_take0 I6 n0 p6.2.1 nL (fun x c e z => ?_) np (ho a cls d oe4 s6.heap _ hz4 ⟨_, hd4⟩ p6.1 hb1)) hN hi hln hq
        obtain ⟨v, q⟩ := I6.cell x c e
        rw [z] at q
        obtain ⟨oc, e1, e2⟩ := q
        rw [p6.1] at e1
        cases e1
        exact p6.2.2.2.2 _ e2
      cases f with
      | next =>
        obtain ⟨σ6, H6, S6, q6⟩ := hsp
        exact endK S6 fun s7 J7 => ⟨_, _, J7, q6⟩
      | brk =>
        obtain ⟨σ6, H6, S6, q6⟩ := hsp
        exact end_ S6 fun s7 J7 => ⟨_, _, J7, q6⟩
      | cont =>
        obtain ⟨σ6, H6, S6, q6⟩ := hsp
        exact end_ S6 fun s7 J7 => ⟨_, _, J7, q6⟩
      | ret u =>
        obtain ⟨v6, σ6, H6, S6, r6, q6⟩ := hsp
        exact end_ S6 fun s7 J7 => ⟨_, _, _, J7, r6, q6⟩
    | false =>
      show wpAny _ X.A (handleBy (.ref a) X.env []) _ _ _
      refine wpAny_handleBy_nil ?_
      obtain ⟨k1, k2, k3, oe, vs, T, oT, ts', he, hz, hd, h1, hr⟩ := id fl5
      unfold PySem.passOn
      refine wpAny_bind (wpAny_field he hd h1 ?_)
      rw [if_neg (show ¬ ((Value.ref T == Value.none) = true) from by simp)]
      have fin : wpAny (model X.prog X.w) X.A (setFlight (.ref a) X.env.frame) (fun _ s4 => wpAny (model X.prog X.w) X.A (throw (.ref a) : Sem Flow) (SP X pins D) X.xe s4) X.xe { s' with heap := h5 } := by
        rw [hf]
        refine HandSPX.setFlight_upZ fl5 fun h4 hh4 up4 => wpAny_throw (tk _ _ ?_)
        exact ⟨a, B, sI, pins, σ', H', cls, d, rfl, J, nb, up5.trans up4, .inr (.inr (by rw [hs]; exact hh4)), na, os, ag, hno rfl⟩
      first
        | exact wpAny_bind (wpAny_pure (wpAny_bind fin))
        | exact wpAny_bind fin
  · cases f with
    | next =>
      obtain ⟨σ', H', J', q⟩ := hsp
      exact wpAny_execs_nil ⟨σ', H', J'.ofTry ok, q⟩
    | brk =>
      obtain ⟨σ', H', J', q⟩ := hsp
      exact ⟨σ', H', J'.ofTry ok, q⟩
    | cont =>
      obtain ⟨σ', H', J', q⟩ := hsp
      exact ⟨σ', H', J'.ofTry ok, q⟩
    | ret u =>
      obtain ⟨v, σ', H', J', r, q⟩ := hsp
      exact ⟨v, σ', H', J'.ofTry ok, r, q⟩
end
end DL
set_option Elab.async false
set_option linter.all false
set_option maxRecDepth 100000
set_option maxHeartbeats 4000000
set_option autoImplicit false
namespace DL
open PySem PySem.Spec PyProof.Rows L2 PySem.W
section
variable {prog : Program} {w : World} {A : Around} {E : Value → Shared → Prop} {R : Result → Shared → Prop} {hp : Heap} {g : Array GenState} {d : Drawn} {t : Nat} {os : OsState}
open Builtin Builtin.ObjectAttr PySem.HandSPX
theorem tail_ne {bmB l : List Value} (hB : bmB.isEmpty = false) (e : excTail bmB l = true) : l.isEmpty = false := by
  rcases excTail_cases l e with ⟨c, r, q, _⟩ | q
  · rw [q]; rfl
  · rw [q]; exact hB
theorem osaB {K : W.Frag} {name : Str} {tk : Tok} {v : Value} {x C : Addr} {fv : Array Value} {cd : ClassData} {B : String} {bmB : List Value} (SF : StoreFacts B bmB "object.__setattr__" "object")
    (X : K.In hp) (hx : hp.get? x = some { cls := .ref C, data := .fields fv }) (hcd : W.clsIn K C = some cd) (hm : excTail bmB cd.mro = true) (hh : cd.hasDict = true) (ha : W.findIn K (.ref C) name = some none)
    (hq : ∀ h' tk' dx, (∀ b o, b ≠ x → hp.get? b = some o → h'.get? b = some o) → hp.objs.size ≤ dx → dx ≠ x → h'.get? x = some { cls := .ref C, dict := some dx, data := .fields fv } →
      h'.Ns1 dx (fun y => if y = name then some v else none) → R (.ok (.ret .none)) ⟨h', g, d, tk', os⟩) :
    codeAny (model prog w) A (.call (.builtin "object.__setattr__") ⟨[.ref x, .str name tk, v], []⟩) R ⟨hp, g, d, t, os⟩ := by
  have I : W.InstAt hp x { cls := .ref C, data := .fields fv } C none := ⟨hx, rfl, rfl, trivial⟩
  have hBne : bmB.isEmpty = false := by
    cases e : bmB with
    | nil => have := SF.hasOwner; rw [e] at this; cases this
    | cons a l => rfl
  have ne := tail_ne hBne hm
  have hob : cd.mro.contains (.type "object") = true := (excTail_contains "object" _ hm).trans SF.hasOwner
  have hxs : x ≠ hp.objs.size := Nat.ne_of_lt (Heap.lt_size hx)
  have sub : W.Looks (model prog w) hp (isInstance (.ref x) (.type "object")) true := I.type.andThen (W.looks_mroIn X (by unfold W.mroIn; rw [hcd, Option.bind_some, if_neg (by rw [ne]; decide), hob]))
  refine codeAny_call_builtin SF.slot.plain SF.entry (@W.check_slot (model prog w) _ _ ⟨hp, g, d, t, os⟩ "object.__setattr__" "object" "__setattr__" (.ref x) [.str name tk, v] [] _ SF.kind SF.split sub (SF.args (.ref x) (.str name tk) v) ?_)
  have hmr : W.Looks (model prog w) hp (mroOf (.ref C)) cd.mro := (W.looks_clsIn X hcd).andThen .now
  have L3 : W.Looks (model prog w) hp (storeTaker? none) none := .now
  have hcls : W.Looks (model prog w) hp (classData C) cd := W.looks_clsIn X hcd
  rw [W.osa_eq, refuse_eq]
  refine wpAny_bind (wpAny_bind (I.type.at (wpAny_bind (hmr.at ?_))))
  rw [excTail_pass _ (SF.passes _) _ hm]
  refine wpAny_pure (wpAny_bind (I.type.at (wpAny_bind ((W.looks_findIn X ha).at (wpAny_bind (L3.at ?_))))))
  show wpAny _ _ (storeInOwnDict (.ref x) (.ref C) (.str name tk) name v false) _ _ _
  obtain ⟨nm, bs, mro, ns, qn, hd, sn, sb, ab, col, del⟩ := cd
  dsimp only at hh
  subst hh
  unfold storeInOwnDict ownDictForStores
  repeat (first | with_reducible refine store_in_new ?_ ?_ | with_reducible refine wpAny_loadPart_at hx ?_ | with_reducible refine hcls.at ?_ | wp_step)
  · exact ⟨_, #[], _, (Heap.get?_update_ne _ _ _ _ hxs.symm).trans (Heap.get?_push_at rfl rfl), rfl, fun e he => absurd he (by simp), fun _ => rfl⟩
  · intro h' tk' hn' hs
    have hx₁ : (hp.push { cls := .type "dict", data := .dict #[] }).get? x = some { cls := .ref C, data := .fields fv } := Heap.get?_push_of_some _ hx
    refine hq h' tk' hp.objs.size (fun b o hb ho => ?_) (Nat.le_refl _) hxs.symm ?_ hn'
    · exact (hs.2 b (Nat.ne_of_lt (Heap.lt_size ho))).trans ((Heap.get?_update_ne _ _ _ _ hb).trans (Heap.get?_push_of_some _ ho))
    · exact (hs.2 x hxs).trans (Heap.get?_update_self _ hx₁ rfl)
end
/-- what the written part says of an error's class over B -/
structure OexB (K : PySem.W.Frag) (C : Addr) (B newId initId : String) (bmB : List Value) : Prop where
  F : ExcBaseFacts B newId initId bmB
  SF : StoreFacts B bmB "object.__setattr__" "object"
  cls : ∃ nm q N bs bm sn sub ab col dd k0 k1 k2 k3 k5, K.lookup C = some (excClassObj nm q C N bs bm true sn sub ab col dd k0 k1 k2 k3 k5 newId) ∧ excTail bmB bm = true
  sa : PySem.W.findIn K (.ref C) "__setattr__" = some (some (.builtin "object.__setattr__"))
  exC : PySem.W.subIn K (.ref C) (.type "BaseException") = some true
  tyC : PySem.W.typeIn K (.ref C) = some (.type "type")
  kC : PySem.W.keepIn K (.ref C) = true
section
variable {X : Cx} {pins : List (Addr × Obj)} {σ : L2.St} {H : Hp} {s : Shared} {a C dx : Addr} {f : Str} {y : V} {u : Value} {fs : List (Str × V)} {Q : Unit → Shared → Prop} {E : Value → Shared → Prop} {A : Around} {B newId initId : String} {bmB : List Value}
theorem ostB_new (T : OexB X.K C B newId initId bmB) (I : Inv X pins σ H s) (e : H a = some (exo a C none)) (hno : PySem.W.findIn X.K (.ref C) f = some none) (ry : RelV y u)
    (h : ∀ dx s', H dx = none → dx ≠ a → Inv X pins σ (upd (upd H dx (exd dx [(f, y)])) a (exo a C (some dx))) s' → Q () s') : wpAny (model X.prog X.w) A (setAttr (.ref a) f u) Q E s := by
  obtain ⟨nm, q, N, bs, bm, sn, sub, ab, col, dd, k0, k1, k2, k3, k5, hC, hbm⟩ := T.cls
  have hcl : PySem.W.clsIn X.K C = some { name := nm, bases := bs, mro := .ref C :: bm, ns := N, qualname := q, hasDict := true, slotNames := sn, subclasses := sub, abstract := ab, collection := col, hasDel := false } := by unfold PySem.W.clsIn; rw [hC] <;> rfl
  obtain ⟨t1, ho⟩ := exo_at I.hok e
  obtain ⟨hp, g, d, t, os⟩ := s
  refine PySem.W.set_plain I.kIn (ox := { cls := .ref C, dict := none, data := .fields #[.ref t1, .none, .none, .none, .bool false, .none] }) (od := none) ⟨ho, rfl, rfl, trivial⟩ T.sa ?_
  refine osaB T.SF I.kIn ho hcl (show excTail bmB (.ref C :: bm) = true from hbm) rfl hno (fun h' tk' dx k dn dne hx hn => ?_)
  have hnd : H dx = none := I.hok.fresh dn
  have nd : ∀ {b : Addr} {o : Obj}, hp.get? b = some o → b ≠ dx := fun {b o} q => Nat.ne_of_lt (Nat.lt_of_lt_of_le (Heap.lt_size q) dn)
  have na : ∀ {b : Addr}, H b = none → b ≠ a := fun {b} n z => by
    rw [z, e] at n
    cases n
  have Un1 : Un X.fs [] H (upd (upd H dx (exd dx [(f, y)])) a (exo a C (some dx))) hp h' := {
    keep := fun b o q n _ _ => k b o (na n) q
    slot := fun b o q n _ _ => ⟨o.slots, k b o (na n) q⟩
    free := fun b o q n _ => by rw [upd_ne (na n), upd_ne (nd q)]; exact n
    there := fun b o q _ => by
      by_cases hb : b = a
      · exact ⟨_, by rw [hb]; exact hx⟩
      · exact ⟨o, k b o hb q⟩
    tups := fun b xs q => by rw [upd_ne (at_ne e q exo_tup), upd_ne (ne_of_none q hnd)]; exact q
    frzs := fun b o v q => by rw [upd_ne (at_ne e q exo_frz), upd_ne (ne_of_none q hnd)]; exact q
    tbls := fun b ps q => ⟨#[], by rw [upd_ne (at_ne e q exo_tbl), upd_ne (ne_of_none q hnd), q]; simp⟩ }
  refine h dx _ hnd dne (I.un (t' := tk') Un1 fun b o q => ?_)
  by_cases hb : b = a
  · subst hb
    rw [upd_same] at q
    cases q
    exact exo_ok hx
  · rw [upd_ne hb] at q
    by_cases hd : b = dx
    · subst hd
      rw [upd_same] at q
      cases q
      exact exd_ok hn (relO_put (fs := []) ry fun g => True.intro)
    · rw [upd_ne hd] at q
      exact (I.hok b o q).stay (fun c v hc z => k c v (by
          rcases hc with hc | hc
          · rw [hc]
            exact hb
          · exact at_ne e hc exo_own) z)
        (fun c hc => by rw [upd_ne (at_ne e hc exo_own), upd_ne (ne_of_none hc hnd)]; exact hc) (fun c xs hc => by rw [upd_ne (at_ne e hc exo_tup), upd_ne (ne_of_none hc hnd)]; exact hc)
/-- B.__init__(self, ..): nothing of it is told -/
theorem oinitB_ok {us : List Value} {Q : Value → Shared → Prop} (T : OexB X.K C B newId initId bmB) (I : Inv X pins σ H s) (e : H a = some (exo a C none)) (hl : us.length ≤ sizeLine) (h : ∀ s', Inv X pins σ H s' → Q .none s') :
    wpAny (model X.prog X.w) A (call (.builtin initId) (.ref a :: us)) Q E s := by
  obtain ⟨nm, q, N, bs, bm, sn, sub, ab, col, dd, k0, k1, k2, k3, k5, hC, hbm⟩ := T.cls
  obtain ⟨t1, ho⟩ := exo_at I.hok e
  obtain ⟨hp, g, d, t, os⟩ := s
  refine wpAny_call (PySem.HandSPX.init_base T.F (fun Y => excTail_contains Y bm hbm) (I.kIn _ _ hC) ho hl fun h' t2 k hx => ?_)
  have J := I.write (t' := t) (x := a) (e := a) (o := exo a C none) (by rw [e]; exact True.intro) (.inl rfl) k ⟨_, hx⟩ (exo_ok hx)
  have eu : upd H a (exo a C none) = H := by
    funext b
    by_cases hb : b = a
    · rw [hb, upd_same, e]
    · rw [upd_ne hb]
  rw [eu] at J
  exact h _ J
end
end DL
set_option Elab.async false
set_option linter.all false
set_option maxRecDepth 100000
set_option maxHeartbeats 4000000
set_option autoImplicit false
namespace DL
open PySem PySem.Spec PyProof.Rows L2
variable [Tx]
theorem calm_make {k : Nat} {A : Around} (r : Calm (k + 1) A) (C : Addr) (us : List Value) (kw : List (Str × Value)) : Calm k (A.under (.builtin "type.__call__" ⟨.ref C :: us, kw⟩)) := ⟨r.room.make C us kw, r.gds⟩
/-- the written part's word: C is an error's class of ours -/
def IsOex (K : PySem.W.Frag) (C : Addr) : Prop := ∃ B newId initId bmB, OexB K C B newId initId bmB
def tBI (K : PySem.W.Frag) (B newId initId : String) (bmB : List Value) (ta : TA) : TE := fun σ H Q => ta σ H fun vs H1 => ∃ (a C : Addr) (ws : List V), vs = .ref a :: ws ∧ ws.length ≤ 1000 ∧ OexB K C B newId initId bmB ∧ H1 a = some (exo a C none) ∧ Q .non H1
def tOstB (K : PySem.W.Frag) (f : Str) (to te : TE) : TS := fun D σ H => te σ H fun y H1 => to σ H1 fun x H2 => ∃ a C : Addr, x = .ref a ∧ IsOex K C ∧ PySem.W.findIn K (.ref C) f = some none ∧
  H2 a = some (exo a C none) ∧ ∀ dx, H2 dx = none → dx ≠ a → D.nx σ (upd (upd H2 dx (exd dx [(f, y)])) a (exo a C (some dx)))
/-- C(e, ..), C's own __init__ keeping sp; without a store the error has no dict -/
def tMkB (C : Addr) (sp : Sp) (ta : TA) : L2.St → Hp → XK → Prop := fun σ H Q => ta σ H fun vs H1 => vs.length ≤ 1000 ∧ ∀ a, H1 a = none → sp (.ref a :: vs) (upd H1 a (exo a C none))
  (fun v H2 => v = .non ∧ ((∃ (d : Addr) (fs : List (Str × V)), H2 a = some (exo a C (some d)) ∧ H2 d = some (exd d fs) ∧ H1 d = none ∧ Q (.ref C) (some d) (upd (del H2 a) d (.xd fs))) ∨ (H2 a = some (exo a C none) ∧ Q (.ref C) none (del H2 a)))) (fun _ _ _ => False)
section
variable {X : Cx} {o e : Expr} {es : List Expr} {to te : TE} {ta : TA} {f : Str} {p p' p1 p2 pos : Pos} {B newId initId : String} {bmB : List Value}
theorem pe_initB {pl : Sem Bool} {x : Str} (hg : Gl X x) (hm : X.mg x = none) (hv : bootBuiltins x = some (.type B)) (ht : typeOf (.type B) = pure (.type "type")) (hs : Manifest.isStub B = false) (hh : PySem.W.handedIn (.builtin initId) = true)
    (vV : PySem.W.findCls X.K (.type B) (.type "type") "__init__" = some (.val (.builtin initId))) (ha : PA X (e :: es) ta)
    (hc : eval (.Call (.Attribute (.Name x p1) "__init__" p2) (e :: es) [] pos) X.env = (do
      let ov ← eval (.Name x p1) X.env
      standAt p2.atName
      let (f, first) ← holding [ov] (getMethod ov "__init__" pl)
      callWith pos f first (backTo pos (starEach (e :: es) X.env)) (backToKw pos (keywordEach [] X.env))) := by rfl)
    (he : starEach (e :: es) X.env = (false, eval e X.env) :: starEach es X.env := by rfl) (hpl : (backTo pos (starEach es X.env)).any (·.1) = false := by rfl) (hn : x ≠ "__name__" := by decide) (hd : (x == ("__debug__" : Str)) = false := by decide) :
    PE X (.Call (.Attribute (.Name x p1) "__init__" p2) (e :: es) [] pos) (tBI X.K B newId initId bmB ta) := by
  refine ⟨fun pins s σ H Q I h => ?_⟩
  refine PySem.W.methodCall_KW (ld_blt I hg hm hv ?_ hn hd) hc
  obtain ⟨m, fr⟩ := I.fr
  refine PySem.W.method_type fr I.ok.mod.kin ht hs vV hh ?_
  show wpAny _ _ (callWith pos (Value.builtin initId) [] (backTo pos (starEach (e :: es) X.env)) []) _ _ _
  refine PyProof.Rows.callWith_method1 (thn (ha.run pos pins _ σ H _ (I.tok _) h) fun us s1 ⟨vs, H1, I1, r1, a, C, ws, ev, hl, T, ea, q⟩ => ?_) he hpl
  subst ev
  cases r1 with
  | @cons _ u0 _ ur ra rw' =>
    obtain rfl : u0 = Value.ref a := ra
    have hlen : ur.length ≤ sizeLine := by
      rw [← Paired.length rw', sizeLine_eq]
      omega
    exact oinitB_ok T I1 ea hlen fun s' J => ⟨.non, H1, J, rfl, q⟩
theorem ps_ostB (ho : PE X o to) (he : PE X e te) (hs : swapsWith e (some (.Attribute o f p')) pos.line X.env = pure false := by rfl) : PS X (.Assign [.Attribute o f p'] e pos) (tOstB X.K f to te) := by
  refine ⟨fun pins s σ H D I h => ?_⟩
  refine plainObj_wpAny_Assign_Attribute (thn (he.run pins s σ H _ I h) fun v s1 ⟨y, H1, I1, r1, q1⟩ => thn (ho.run pins s1 σ H1 _ I1 q1) fun u s2 ⟨x, H2, I2, r2, a, C, ex, ⟨B, newId, initId, bmB, T⟩, hno, ea, q⟩ => ?_) hs
  subst ex
  obtain rfl : u = Value.ref a := r2
  exact ostB_new T I2 ea hno r1 fun dx s' n ne J => ⟨σ, _, J, q dx n ne⟩
/-- the end of C(e, ..) where nothing was stored -/
theorem mk_endN {pins : List (Addr × Obj)} {σ : L2.St} {H1 H2 : Hp} {Q : XK} {hp hp2 h2 : Heap} {g1 g2 : Array GenState} {d1 d2 : Drawn} {t1 t2 : Nat} {os1 os2 : OsState} {a C : Addr} (T : Raises X (.ref C)) (I1 : Inv X pins σ H1 ⟨hp, g1, d1, t1, os1⟩)
    (ha : hp.objs.size ≤ a) (k : ∀ b o, hp.get? b = some o → hp2.get? b = some o) (un : Un (frs X.stack) [] (upd H1 a (exo a C none)) H2 hp2 h2) (hok : HOk X.prog X.w H2 h2) (ho : os2 = os1) (hb : AllBare g2)
    (ea : H2 a = some (exo a C none)) (q : Q (.ref C) none (del H2 a)) : MkP X pins σ Q (.ref a) ⟨h2, g2, d2, t2, os2⟩ := by
  obtain ⟨t0, hoe⟩ := exo_at hok ea
  have hn : H1 a = none := I1.hok.fresh ha
  obtain ⟨G, g1', g2'⟩ := restrict h2 fun b => decide (b ≠ a)
  have gk : ∀ b, b ≠ a → G.get? b = h2.get? b := fun b hb => g1' b (decide_eq_true hb)
  have ge : G.get? a = none := g2' a (by simp)
  have nha : ∀ {b : Addr} {o : Obj}, hp.get? b = some o → b ≠ a := fun {b o} z => Nat.ne_of_lt (Nat.lt_of_lt_of_le (Heap.lt_size z) ha)
  have up : ∀ {b : Addr}, b ≠ a → H1 b = none → upd H1 a (exo a C none) b = none := fun {b} hb n => by rw [upd_ne hb]; exact n
  have U : Un (frs X.stack) [] H1 (del H2 a) hp G := {
    keep := fun b o z n hf hx => by
      rw [gk b (nha z)]
      exact un.keep b o (k b o z) (up (nha z) n) hf hx
    slot := fun b o z n hf hx => by
      rw [gk b (nha z)]
      exact un.slot b o (k b o z) (up (nha z) n) hf hx
    free := fun b o z n hx => by
      rw [del_ne (nha z)]
      exact un.free b o (k b o z) (up (nha z) n) hx
    there := fun b o z hx => by
      rw [gk b (nha z)]
      exact un.there b o (k b o z) hx
    tups := fun b xs z => by
      rw [del_ne (ne_of_none z hn)]
      exact un.tups b xs (by rw [upd_ne (ne_of_none z hn)]; exact z)
    frzs := fun b o v z => by
      rw [del_ne (ne_of_none z hn)]
      exact un.frzs b o v (by rw [upd_ne (ne_of_none z hn)]; exact z)
    tbls := fun b ps z => by
      rw [del_ne (ne_of_none z hn)]
      exact un.tbls b ps (by rw [upd_ne (ne_of_none z hn)]; exact z) }
  have hok3 : HOk X.prog X.w (del H2 a) G := fun b o z => by
    have hba : b ≠ a := fun e => by
      rw [e, del_same] at z
      cases z
    rw [del_ne hba] at z
    have noa : ∀ {c : Addr}, H2 c = some (.own b) → c ≠ a := fun {c} hc => at_ne ea hc exo_own
    exact (hok b o z).stay (fun c v hc y => by
        have hca : c ≠ a := by
          rcases hc with hc | hc
          · rw [hc]
            exact hba
          · exact noa hc
        rw [gk c hca]
        exact y)
      (fun c hc => by rw [del_ne (noa hc)]; exact hc) (fun c xs hc => by rw [del_ne (at_ne ea hc exo_tup)]; exact hc)
  have J : Inv X pins σ (del H2 a) ⟨G, g2, d2, t2, os2⟩ := I1.call' (ch := []) ho U hok3 hb (fun b z => absurd z (by simp))
  refine ⟨a, _, _, ⟨G, g2, d2, t2, os2⟩, _, .ref C, none, rfl, J, fun b o z => ?_, ge, hoe, ⟨rfl, rfl⟩, rfl, rfl, del_same, rfl, hb, T, q⟩
  by_cases hba : b = a
  · rw [hba, ge] at z
    cases z
  · exact (gk b hba).symm.trans z
theorem oexB_call {CX : CXT} {C fI : Addr} {k : Nat} {fd : FuncData} {ps : List Str} {sp : Sp} {pins : List (Addr × Obj)} {σ : L2.St} {H1 : Hp} {Q : XK} {s1 : Shared} {vs : List V} {us : List Value} (T : OexB X.K C B newId initId bmB) (iC : PySem.W.findIn X.K (.ref C) "__init__" = some (some (.ref fI))) (tI : PySem.W.typeIn X.K (.ref fI) = some (.type "function"))
    (F1 : FnG X.prog X.w X.K X.mg X.base CX k fI fd ps sp) (hr : Calm (k + 1) X.A) (hb : Binds X.K fd ps []) (hx : Passes CX X (fun _ _ _ => False)) (I1 : Inv X pins σ H1 s1) (r1 : Vals vs us) (hz : vs.length ≤ 1000)
    (q1 : ∀ a, H1 a = none → sp (.ref a :: vs) (upd H1 a (exo a C none))
      (fun v H2 => v = .non ∧ ((∃ (d : Addr) (fs : List (Str × V)), H2 a = some (exo a C (some d)) ∧ H2 d = some (exd d fs) ∧ H1 d = none ∧ Q (.ref C) (some d) (upd (del H2 a) d (.xd fs))) ∨ (H2 a = some (exo a C none) ∧ Q (.ref C) none (del H2 a)))) (fun _ _ _ => False)) :
    wpAny (model X.prog X.w) X.A (call (.ref C) us) (MkP X pins σ Q) X.xe s1 := by
  obtain ⟨nm, q, N, bs, bm, sn, sub, ab, col, dd, k0, k1, k2, k3, k5, hC, hbm⟩ := T.cls
  obtain ⟨hp, g, dr, tk, os⟩ := s1
  have hsz : hp.objs.size ≤ hp.objs.size + 1 := Nat.le_succ _
  have hn : H1 (hp.objs.size + 1) = none := I1.hok.fresh hsz
  have hq := q1 (hp.objs.size + 1) hn
  have kk : ∀ b o, hp.get? b = some o → ((hp.push (PySem.W.kdv_tup us)).push (PySem.HandSPX.excO C hp.objs.size)).get? b = some o := fun b o e => Heap.get?_push_of_some _ (Heap.get?_push_of_some _ e)
  have hget : ((hp.push (PySem.W.kdv_tup us)).push (PySem.HandSPX.excO C hp.objs.size)).get? (hp.objs.size + 1) = some (PySem.HandSPX.excO C hp.objs.size) := by heap_get
  have I2 : Inv X pins σ (upd H1 (hp.objs.size + 1) (exo (hp.objs.size + 1) C none)) ⟨(hp.push (PySem.W.kdv_tup us)).push (PySem.HandSPX.excO C hp.objs.size), g, dr, tk, os⟩ :=
    I1.laid (t' := tk) (a := hp.objs.size + 1) (o := exo (hp.objs.size + 1) C none) (h' := (hp.push (PySem.W.kdv_tup us)).push (PySem.HandSPX.excO C hp.objs.size)) kk hsz (exo_ok hget)
  have r2 : Vals (V.ref (hp.objs.size + 1) :: vs) (Value.ref (hp.objs.size + 1) :: us) := .cons rfl r1
  have hl : (Value.ref (hp.objs.size + 1) :: us ++ []).length = ps.length := by
    have e := r2.length
    rw [F1.count _ _ _ _ hq] at e
    rw [List.append_nil]
    exact e.symm
  have hus : us.length ≤ sizeLine := by
    rw [← Paired.length r1, sizeLine_eq]
    omega
  refine wpAny_call (PySem.HandSPX.call_own T.F (fun Y => PySem.W.excTail_contains Y bm hbm) (I1.kIn _ _ hC) (PySem.W.looks_findIn I1.kIn iC) (fun self => PySem.W.bind_fn I1.kIn self tI) hus
    (codeAny_mono (F1.goes _ X.stack _ _ ⟨Value.ref (hp.objs.size + 1) :: us, []⟩ (Value.ref (hp.objs.size + 1) :: us) _ _ (fun _ _ _ => False) (calm_make hr C us []) (I2.env0.make C us []) (by have := hb _ (Value.ref (hp.objs.size + 1) :: us) I2.kIn hl; rwa [List.append_nil] at this) r2 hq) fun r s' hq' => ?_))
  cases r with
  | error er => exact hx pins σ _ _ er s' I2 hq'
  | ok fl =>
    cases fl with
    | ret u =>
      obtain ⟨v, H2, os2, bare2, un2, hok2, rv, ev, hq2⟩ := hq'
      subst ev
      obtain ⟨h2, g2, d2, t2, os'⟩ := s'
      rcases hq2 with ⟨d, fs, ea, ed, hd1, q2⟩ | ⟨ea, q2⟩
      · exact ⟨rv, mk_end (raises_own T.exC T.tyC) I1 hsz kk un2 hok2 os2 bare2 ea ed hd1 q2⟩
      · exact ⟨rv, mk_endN (raises_own T.exC T.tyC) I1 hsz kk un2 hok2 os2 bare2 ea q2⟩
    | next => exact False.elim hq'
    | brk => exact False.elim hq'
    | cont => exact False.elim hq'
theorem pmk_oexB {CX : CXT} {x : Str} {C fI : Addr} {k : Nat} {fd : FuncData} {ps : List Str} {sp : Sp} (T : OexB X.K C B newId initId bmB) (iC : PySem.W.findIn X.K (.ref C) "__init__" = some (some (.ref fI))) (tI : PySem.W.typeIn X.K (.ref fI) = some (.type "function"))
    (F1 : FnG X.prog X.w X.K X.mg X.base CX k fI fd ps sp) (hr : Calm (k + 1) X.A) (hb : Binds X.K fd ps []) (hx : Passes CX X (fun _ _ _ => False)) (hg : Gl X x) (hm : X.mg x = some (.ref C)) (ha : PA X (e :: es) ta)
    (hdb : (x == ("__debug__" : Str)) = false := by decide) (he : starEach (e :: es) X.env = (false, eval e X.env) :: starEach es X.env := by rfl) (hpl : (backTo pos (starEach es X.env)).any (·.1) = false := by rfl) :
    PMk X (.Call (.Name x p) (e :: es) [] pos) (tMkB C sp ta) := by
  intro pins s σ H Q I h
  refine wpAny_Call_Name_kw (ld_glob I hg hm ?_ hdb)
  exact PySem.W.callWith_K (h₀ := X.base) I.ok.mod.kin T.kC (thn (ha.run pos pins s σ H _ I h) fun us s1 ⟨vs, H1, I1, r1, hz, q1⟩ => ⟨I1.kIn, oexB_call T iC tI F1 hr hb hx I1 r1 hz q1⟩) he hpl
end
end DL
set_option Elab.async false
set_option linter.all false
set_option maxRecDepth 100000
set_option maxHeartbeats 4000000
set_option autoImplicit false
namespace DL
open PySem PySem.Spec PyProof.Rows L2
variable [Tx]
section
variable {X : Cx} {pins : List (Addr × Obj)} {σ : L2.St} {H : Hp} {s : Shared}
mutual
theorem dp_reads (I : Inv X pins σ H s) : ∀ {v : V} {x : PyData} {u : Value}, Dp X.K H v x → RelV v u → ∃ as, Reads s.heap u x as ∧ x.hasDict = false
  | _, _, _, .non, r => by cases r; exact ⟨[], .none, by simp only [PyData.hasDict]⟩
  | _, _, _, .bl b, r => by cases r; exact ⟨[], .bool b, by simp only [PyData.hasDict]⟩
  | _, _, _, .int i, r => by obtain ⟨t, rfl⟩ := r; exact ⟨[], .int i t, by simp only [PyData.hasDict]⟩
  | _, _, _, .str x, r => by obtain ⟨t, rfl⟩ := r; exact ⟨[], .str x t, by simp only [PyData.hasDict]⟩
  | _, _, _, .lst h a, r => by
    cases r
    obtain ⟨its, r2, ⟨o, n, e, hc, _, hd⟩, _⟩ := I.list h
    obtain ⟨as, q, hq⟩ := dp_readsAll I a r2
    exact ⟨_, .list e hc hd (by simpa using q), by simp only [PyData.hasDict]; exact hq⟩
  | _, _, _, .tup h a, r => by
    cases r
    obtain ⟨its, r2, ⟨o, e, hc, n, hd⟩, _⟩ := I.tuple h
    obtain ⟨as, q, hq⟩ := dp_readsAll I a r2
    exact ⟨_, .tuple e hc hd (by simpa using q), by simp only [PyData.hasDict]; exact hq⟩
theorem dp_readsAll (I : Inv X pins σ H s) : ∀ {vs : List V} {xs : List PyData} {us : List Value}, DpAll X.K H vs xs → Vals vs us → ∃ as, ReadsAll s.heap us xs as ∧ PyData.hasDictAll xs = false
  | _, _, _, .nil, .nil => ⟨[], .nil, by simp only [PyData.hasDictAll]⟩
  | _, _, _, .cons a b, .cons r q => by
    obtain ⟨as, h1, h2⟩ := dp_reads I a r
    obtain ⟨bs, h3, h4⟩ := dp_readsAll I b q
    exact ⟨as ++ bs, .cons h1 h3, by simp only [PyData.hasDictAll, h2, h4, Bool.or_self]⟩
end
end
def okSh (x : PyData) : Bool := x.showable && decide (x.shown.length ≤ 4000) && decide (x.depth ≤ 60)
/-- what an f-string can show -/
def showsD : PyData → Bool
  | .int i => decide (i.natAbs.log2 < 1920)
  | .tuple [.int i, .int j] => decide (i.natAbs.log2 < 1920 ∧ j.natAbs.log2 < 1920)
  | .list ds => okSh (.list ds)
  | _ => false
def shV (K : PySem.W.Frag) (H : Hp) (v : V) : Prop := (∃ i : Int, v = .int i ∧ i.natAbs.log2 < 1920) ∨ (∃ (a : Addr) (i j : Int), v = .ref a ∧ SqT K H a [.int i, .int j] ∧ i.natAbs.log2 < 1920 ∧ j.natAbs.log2 < 1920) ∨ ∃ (a : Addr) (x : PyData), K = Tx.fr ∧ v = .ref a ∧ Dq H v x ∧ okSh x = true
def tFmtS (K : PySem.W.Frag) (te : TE) : TE := fun σ H Q => te σ H fun x H1 => shV K H1 x ∧ ∀ m : Str, m.length ≤ 5000 → Q (.str m) H1
theorem pe_fmtS {X : Cx} {e : Expr} {te : TE} {pos : Pos} {k : Nat} (hr : Calm k X.A) (he : PE X e te) : PE X (.FormattedValue e (-1) none pos) (tFmtS X.K te) := by
  refine ⟨fun pins s σ H Q I h => ?_⟩
  refine wpAny_FormattedValue_plain (thn (he.run pins s σ H _ I h) fun v s1 hv => ?_)
  obtain ⟨x, H1, I1, r1, hs, q⟩ := hv
  rcases hs with ⟨i, rfl, hz⟩ | ⟨a, i, j, rfl, ht, hi, hj⟩ | ⟨a, x, ek, rfl, hd, hk⟩
  · obtain ⟨t, rfl⟩ := r1
    have hd := int_text_len_1921 hz
    have hd : (toString i : Str).length ≤ 1921 := hd
    exact wpAny_formatField_int hz ⟨.str (toString i), H1, I1.tok _, ⟨_, rfl⟩, q _ (by omega)⟩
  · cases r1
    obtain ⟨its, rv, ⟨o, ho, hcl, n, hd⟩, _⟩ := I1.tuple ht
    have h1 : (toString i : Str).length ≤ 1921 := int_text_len_1921 hi
    have h2 : (toString j : Str).length ≤ 1921 := int_text_len_1921 hj
    have hp : piled [(toString i : Str), toString j] ≤ 4000 := by
      rw [piled_cons, piled_cons]
      have : piled [] = 0 := rfl
      omega
    have htx := fmt_text [(toString i : Str), toString j]
    have hu := hr.units
    obtain ⟨u1, u2, rfl, e1, e2⟩ := vals2 rv
    obtain ⟨t1, rfl⟩ := e1
    obtain ⟨t2, rfl⟩ := e2
    refine fmt_tuple (ts := [(toString i : Str), toString j]) (by omega) ho hcl hd (.cons (ReprIs.int t1 hi) (.cons (ReprIs.int t2 hj) .nil)) (by rw [sizeLine_eq]; omega) fun m u tk hm => ⟨.str m, H1, I1.tok _, ⟨u, rfl⟩, q m (by omega)⟩
  · obtain ⟨as, hr2, hn⟩ := dp_reads I1 (dq_dp (K := X.K) ek hd) r1
    cases r1
    simp only [okSh, Bool.and_eq_true, decide_eq_true_eq] at hk
    have hu := hr.units
    exact formatField_of_reads hr2 hk.1.1 (PyData.noDict_hsm hn) hr.gds (by omega) (fun _ _ e => e) (fun h' u tk hk' => ⟨.str _, H1, I1.kept hk', ⟨_, rfl⟩, q _ (by omega)⟩) (by rw [sizeLine_eq]; omega)
/-- __init__(self, p): the base's; self.f = p -/
def spI (K : PySem.W.Frag) (C : Addr) (f : Str) : Sp := fun vs H Q _ => ∃ (a : Addr) (y : V), vs = [.ref a, y] ∧ shV K H y ∧ H a = some (exo a C none) ∧ ∀ dx, H dx = none → dx ≠ a → Q .non (upd (upd H dx (exd dx [(f, y)])) a (exo a C (some dx)))
def sRaise1 (cls f : Str) (fs : FAr) : FS := fun g => (fs g).bind fun rs g1 => match rs with
  | [.d x] => if showsD x then .ex ⟨cls, [(f, x)]⟩ g1 else .no
  | _ => .no
def sRaise0 (cls : Str) : FS := fun g => .ex ⟨cls, []⟩ g
theorem shows_sh {K : PySem.W.Frag} {B H : Hp} (ek : K = Tx.fr) (bh : Same B H) {v : V} {x : PyData} (h : showsD x = true) (hv : Dq B v x) : shV K H v := by
  unfold showsD at h
  split at h
  · rename_i i
    rw [dq_int hv]
    exact .inl ⟨i, rfl, of_decide_eq_true h⟩
  · rename_i i j
    obtain ⟨a, xs, rfl, h1, h2⟩ := dq_tup hv
    cases h2 with
    | cons a1 t1 =>
      cases t1 with
      | cons a2 t2 =>
        cases t2
        rw [dq_int a1, dq_int a2] at h1
        have hh := of_decide_eq_true h
        exact .inr (.inl ⟨a, i, j, rfl, (ek ▸ (h1.same bh).sq), hh.1, hh.2⟩)
  · rename_i ds
    obtain ⟨a, xs, rfl, h1, h2⟩ := dq_list hv
    exact .inr (.inr ⟨a, _, ek, rfl, dq_mono bh hv, h⟩)
  · cases h
theorem shV_mono {K : PySem.W.Frag} {H H' : Hp} (e : Same H H') {v : V} (h : shV K H v) : shV K H' v := by
  rcases h with h | ⟨a, i, j, e1, e2, e3⟩ | ⟨a, x, ek, e1, e2, e3⟩
  · exact .inl h
  · exact .inr (.inl ⟨a, i, j, e1, same_t e e2, e3⟩)
  · exact .inr (.inr ⟨a, x, ek, e1, dq_mono e e2, e3⟩)
section
variable {ρ : Root} {X : Cx} {dx : DX} {es : List Expr} {fs : FAr} {p pos pos' : Pos} {cls f : Str} {B newId initId : String} {bmB : List Value} {CX : CXT} {fI : Addr} {k : Nat} {fd : FuncData} {ps : List Str}
theorem qs_raise1 (hc : X.calm = true) (tk : Takes X (liftX ⟨X.K, ρ⟩ dx)) (hm1 : PMk X (.Call (.Name cls p) es [] pos) (tMkB (ρ.cl cls) (spI X.K (ρ.cl cls) f) (liftA ⟨X.K, ρ⟩ (rd dx fs)))) :
    PFS ρ X dx (.Raise (some (.Call (.Name cls p) es [] pos)) none pos') (sRaise1 cls f fs) := by
  refine ps_imp (ps_raise hc tk hm1) fun D σ H h => ?_
  obtain ⟨F, g, tm, E, B0, al, S, hd, _⟩ := h
  refine ⟨F, g, tm, _, B0, al, S, go_bind.mp hd, fun vs H1 rs g1 B1 al1 hk S1 pr => ?_⟩
  have hk : (match rs with
    | [.d x] => if showsD x then (.ex ⟨cls, [(f, x)]⟩ g1 : Out Fl) else .no
    | _ => .no).go dx (flK E) := hk
  cases pr with
  | nil => exact hk.elim
  | @cons v r vs rs hv pr =>
    cases pr with
    | cons _ _ => cases r <;> exact hk.elim
    | nil =>
      cases r with
      | d x =>
        have hk : (if showsD x = true then (.ex ⟨cls, [(f, x)]⟩ g1 : Out Fl) else .no).go dx (flK E) := hk
        by_cases hs : showsD x = true
        · rw [if_pos hs] at hk
          have sh : shV X.K H1 v := shows_sh S1.tx S1.bh hs hv
          refine ⟨by simp, fun a ha => ⟨a, v, rfl, shV_mono (same_new ha) sh, by rw [upd_same], fun dxx n ne => ⟨rfl, .inl ⟨dxx, [(f, v)], by rw [upd_same], by rw [upd_ne ne, upd_same], ?_, ?_⟩⟩⟩⟩
          · rw [upd_ne ne] at n; exact n
          · have n1 : H1 dxx = none := by rw [upd_ne ne] at n; exact n
            have eH : upd (del (upd (upd (upd H1 a (exo a (ρ.cl cls) none)) dxx (exd dxx [(f, v)])) a (exo a (ρ.cl cls) (some dxx))) a) dxx (.xd [(f, v)]) = upd H1 dxx (.xd [(f, v)]) := by
              funext b
              by_cases hb : b = dxx
              · rw [hb, upd_same, upd_same]
              · rw [upd_ne hb, upd_ne hb]
                by_cases hba : b = a
                · rw [hba, del_same, ha]
                · rw [del_ne hba, upd_ne hba, upd_ne hb, upd_ne hba]
            rw [eH]
            have nB : B1 dxx = none := by
              cases e : B1 dxx with
              | none => rfl
              | some o => rw [S1.bh _ _ e] at n1; cases n1
            refine ⟨F, g1, tm, upd B1 dxx (.xd [(f, v)]), al1, ⟨cls, [(f, x)]⟩, S1.grow n1, hk, rfl, .inr ⟨dxx, [(f, v)], rfl, by rw [upd_same], ?_⟩⟩
            exact .cons ⟨rfl, dq_mono (same_new nB) hv⟩ .nil
        · rw [if_neg hs] at hk
          exact hk.elim
      | _ => exact hk.elim
end
end DL
set_option Elab.async false
set_option linter.all false
set_option maxRecDepth 100000
set_option maxHeartbeats 4000000
set_option autoImplicit false
namespace DL
open PySem PySem.Spec PyProof.Rows L2
variable [Tx]
def sTry (hit : Str → Option Bool) (i j : Nat) (u : FS) : FS := fun g => match u g with
  | .ex n g1 => match hit n.cls with
    | some true => if i < g1.sl.length then .ok .nx ⟨(g1.sl.set j (some (.x n))).set i none, g1.ce⟩ else .no
    | some false => .ex n g1
    | none => .no
  | o => o
theorem rv_cl {K K' : KR} (hf : K.fr = K'.fr) (hc : K.rt.cl = K'.rt.cl) {B : Hp} {al : List Addr} {v : V} {r : R} (h : RvOk K B al v r) : RvOk K' B al v r := by
  cases r with
  | d x => exact h
  | s ns => obtain ⟨a, h1, h2⟩ := h; exact ⟨a, h1, hf ▸ h2⟩
  | o j => exact h
  | x n => obtain ⟨a, d, h1, h2, h3⟩ := h; exact ⟨a, d, h1, hc ▸ h2, h3⟩
  | m ct => obtain ⟨a, h1, h2, h3⟩ := h; exact ⟨a, h1, h2, ct_any h2 h3⟩
  | l js => exact h
  | t _ _ => obtain ⟨p, xs, h1, h2, h3⟩ := h; exact ⟨p, xs, h1, h2, paired_imp (fun _ _ z => fv_cl hc z) h3⟩
  | f j ds => exact h
  | u nd ds => obtain ⟨a, xs, h1, h2, h3, h4⟩ := h; exact ⟨a, xs, h1, hf ▸ h2, hf ▸ h3, h4⟩
section
variable {fr : PySem.W.Frag} {ρ : Root} {F : Fm} {g : G} {tm : List (V × R)} {s : L2.St} {H B : Hp} {al : List Addr}
abbrev rtOf (ρ : Root) (F : Fm) : Root := ⟨F.B, F.O, F.P, ρ.cl⟩
/-- the frame becomes the root -/
theorem Stt.toRoot (S : Stt ⟨fr, ρ⟩ F g tm s H B al) : Stt ⟨fr, rtOf ρ F⟩ F g tm s H B al :=
  { rb := Same.refl _, ro := (fun _ _ e => e), rp := ⟨[], (List.append_nil _).symm⟩, ot := S.ot, fb := S.fb, bh := S.bh, fo := S.fo, pre := S.pre, len := S.len, nd := S.nd, lv := S.lv, nb := S.nb,
    ce := (fun j a ct e1 e2 => ct_cl rfl rfl (S.ce j a ct e1 e2)), sl := (fun i r e => (S.sl i r e).elim fun v h => ⟨v, h.1, rv_cl rfl rfl h.2⟩), tm := (fun p hp => rv_cl rfl rfl (S.tm p hp)), sln := S.sln, tx := S.tx }
/-- back -/
theorem Stt.fromRoot {F' : Fm} {g' : G} {tm' : List (V × R)} {s' : L2.St} {H' B' : Hp} {al' : List Addr} (S0 : Stt ⟨fr, ρ⟩ F g tm s H B al) (S : Stt ⟨fr, rtOf ρ F⟩ F' g' tm' s' H' B' al') : Stt ⟨fr, ρ⟩ F g' [] s' H' B' al' :=
  { rb := S0.rb, ro := S0.ro, rp := S0.rp, ot := S0.ot, fb := S.rb.trans S.fb, bh := S.bh, fo := (fun a o e => S.fo a o (S.ro a o e)), pre := (by obtain ⟨t, ht⟩ := S.pre; obtain ⟨u, hu⟩ := S.rp; exact ⟨u ++ t, by rw [ht, hu, List.append_assoc]⟩), len := S.len, nd := S.nd, lv := S.lv, nb := S.nb,
    ce := (fun j a ct e1 e2 => ct_cl rfl rfl (S.ce j a ct e1 e2)), sl := (fun i r e => (S.sl i r e).elim fun v h => ⟨v, h.1, rv_cl rfl rfl h.2⟩), tm := (fun p hp => nomatch hp), sln := S.sln, tx := S.tx }
end
theorem stt_caught {K : KR} {F : Fm} {g : G} {s : L2.St} {H B : Hp} {al : List Addr} {i j : Nat} {v x : V} {r : R} (S : Stt K F g [] s H B al) (h : RvOk K B al v r) : Stt K F ⟨(g.sl.set j (some r)).set i none, g.ce⟩ [] (((s.set i (some x)).set j (some v)).set i none) H B al := by
  refine { S with sl := fun k r' e => ?_, sln := by simp [S.sln] }
  have e : ((g.sl.set j (some r)).set i none)[k]? = some (some r') := e
  by_cases hk : k = i
  · subst hk
    rw [List.getElem?_set] at e
    simp only [if_true] at e
    split at e
    · cases e
    · cases e
  · rw [List.getElem?_set_ne (Ne.symm hk)] at e
    rw [List.getElem?_set_ne (Ne.symm hk)]
    by_cases hj : k = j
    · subst hj
      rw [List.getElem?_set] at e
      simp only [if_true] at e
      split at e
      · rename_i hl
        cases e
        refine ⟨v, ?_, h⟩
        rw [List.getElem?_set]
        simp only [if_true]
        rw [if_pos (by simp; rw [← S.sln]; exact hl)]
      · cases e
    · rw [List.getElem?_set_ne (Ne.symm hj)] at e
      rw [List.getElem?_set_ne (Ne.symm hj), List.getElem?_set_ne (Ne.symm hk)]
      exact S.sl k r' e
def oKeep (a : Addr) (cls : Value) (d : Option Addr) : HO := match cls with
  | .ref C => excO a C d
  | _ => excO a 0 d
def onRef (m : Value → Option Bool) (cls : Value) : Option Bool := match cls with
  | .ref C => m (.ref C)
  | _ => none
theorem excO_ok {P : Program} {w : World} {H : Hp} {h : Heap} {a C : Addr} {d : Option Addr} {oe : Obj} (hz : Zc (.ref C) d oe) (hd : ∃ vs, oe.data = .fields vs) (he : h.get? a = some oe) : ObjOk P w H h a (excO a C d) := by
  obtain ⟨vs, hd⟩ := hd
  exact ⟨⟨oe, vs, he, hz.1, hz.2, hd⟩, ⟨oe, he⟩, fun h1 h2 z k => by
    obtain ⟨o, vs, q1, q2, q3, q4⟩ := z
    exact ⟨o, vs, k _ q1, q2, q3, q4⟩⟩
theorem test_ref {X : Cx} {te : Expr} {m : Value → Option Bool} (h : TestOk X te m) : TestOk X te (onRef m) := fun a oe pn σ H s cls b Q E S K LT hb q => by
  cases cls with
  | ref C => exact h a oe pn σ H s (.ref C) b Q E S K LT hb q
  | _ => cases hb
section
variable {ρ : Root} {X : Cx} {dx : DX} {te : Expr} {m : Value → Option Bool} {hit : Str → Option Bool} {i j : Nat} {n c : Str} {body : List Stmt} {u : FS} {p1 p2 p3 pos pos' : Pos}
theorem qs_try (hs : X.stack = X.env :: X.outer) (hf : X.env.frame = some X.env.locals) (hex : X.ex = []) (hN : X.N.Nodup) (hi : X.N[i]? = some n) (hln : X.env.kindOf n = some .local) (ht : TestOk X te m) (tk : Takes X (liftX ⟨X.K, ρ⟩ dx)) (hh : ∀ (cl : Str) (b : Bool), hit cl = some b → m (.ref (ρ.cl cl)) = some b)
    (hsu : ∀ (a : Addr) (oe : Obj) (pn : List (Addr × Obj)), PS (X.suite a ((a, oe) :: pn)) (.Assign [.Name c p1] (.Name n p2) p3) (tAsg (tVar i) (gName j)))
    (hb : ∀ (ρ' : Root) (dx' : DX) (pn : List (Addr × Obj)) (xe : Value → Shared → Prop), ρ'.cl = ρ.cl → Takes (X.tr pn xe) (liftX ⟨X.K, ρ'⟩ dx') → PassesOwn (model X.prog X.w) X.A X.env xe → PFSs ρ' (X.tr pn xe) dx' body u) :
    PFS ρ X dx (.Try body [.ExceptHandler (some te) (some n) [.Assign [.Name c p1] (.Name n p2) p3] pos'] [] [] pos) (sTry hit i j u) := by
  have base := ps_try_on (X := X) (te := te) (m := onRef m) (i := i) (n := n) (body := body) (suite := []) (b₀ := .Assign [.Name c p1] (.Name n p2) p3) (pos := pos) (pos' := pos') (ts := fun _ _ _ => tAsg (tVar i) (gName j)) (o := oKeep) (Wout := liftX ⟨X.K, ρ⟩ dx)
    (tb := fun W D σ H => ∃ (ρ' : Root) (dx' : DX), ρ'.cl = ρ.cl ∧ (∀ cl d σ H, liftX ⟨X.K, ρ'⟩ dx' cl d σ H → W cl d σ H) ∧ liftS ⟨X.K, ρ'⟩ (rS dx' u) D σ H) hs hf hex hN hi hln (test_ref ht) tk
    (fun a cls d oe h H hz hd he hm => by
      cases cls with
      | ref C => exact excO_ok hz hd he
      | _ => cases hm)
    (fun W pn xe tkW po => ⟨fun pins s σ H D I ⟨ρ', dx', hc, hw, h⟩ => (hb ρ' dx' pn xe hc (tkW.imp hw) po).run pins s σ H D I h⟩)
    (fun a oe cls d pn _ _ => pss_one (hsu a oe pn))
  refine ps_imp base fun D σ H h => ?_
  obtain ⟨F, g, tm, E, B, al, S, hd, ends⟩ := h
  have htm := ends.tm0
  subst htm
  have hd : (sTry hit i j u g).go dx (flK E) := hd
  refine ⟨rtOf ρ F, fun k g1 => (match hit k.cls with
    | some true => if i < g1.sl.length then (.ok .nx ⟨(g1.sl.set j (some (.x k))).set i none, g1.ce⟩ : Out Fl) else .no
    | some false => .ex k g1
    | none => .no).go dx (flK E), rfl, fun cls d σ1 H1 hx => ?_, F, g, [], E, B, al, S.toRoot, ?_, ?_⟩
  · obtain ⟨F', g1, tm', B1, al1, k, S1, hk, hc, hxf⟩ := hx
    have S2 := Stt.fromRoot S S1
    have hc : cls = .ref (ρ.cl k.cls) := hc
    subst hc
    have hk : (match hit k.cls with
      | some true => if i < g1.sl.length then (.ok .nx ⟨(g1.sl.set j (some (.x k))).set i none, g1.ce⟩ : Out Fl) else .no
      | some false => .ex k g1
      | none => .no).go dx (flK E) := hk
    cases hm : hit k.cls with
    | none => rw [hm] at hk; exact hk.elim
    | some b =>
      rw [hm] at hk
      refine ⟨b, hh k.cls b hm, fun eb a na => ?_, fun eb => ?_⟩
      · subst eb
        have hk : (if i < g1.sl.length then (.ok .nx ⟨(g1.sl.set j (some (.x k))).set i none, g1.ce⟩ : Out Fl) else .no).go dx (flK E) := hk
        by_cases hl : i < g1.sl.length
        · rw [if_pos hl] at hk
          refine ⟨.ref a, ?_, ?_⟩
          · rw [List.getElem?_set]
            simp only [if_true]
            rw [if_pos (by rw [← S2.sln]; exact hl)]
          · have S3 : Stt ⟨X.K, ρ⟩ F g1 [] σ1 (upd H1 a (excO a (ρ.cl k.cls) d)) (upd B1 a (excO a (ρ.cl k.cls) d)) al1 := S2.grow na
            have rv : RvOk ⟨X.K, ρ⟩ (upd B1 a (excO a (ρ.cl k.cls) d)) al1 (.ref a) (.x k) := ⟨a, d, rfl, upd_same, xnf_mono (fun b o e => by
              have hb : b ≠ a := fun z => by
                have := S2.bh b o e
                rw [z, na] at this
                cases this
              rw [upd_ne hb]; exact e) hxf⟩
            exact ends.nx _ _ _ _ _ hk (stt_caught S3 rv)
        · rw [if_neg hl] at hk
          exact hk.elim
      · subst eb
        exact ⟨F, g1, [], B1, al1, k, S2, hk, rfl, hxf⟩
  · show (u g).go _ (flK E)
    unfold sTry at hd
    cases hu : u g with
    | no => rw [hu] at hd; exact hd
    | ok fl g1 => rw [hu] at hd; exact hd
    | ex k g1 => rw [hu] at hd; exact hd
  · exact ⟨fun s' H' g' B' al' h' S' => ends.nx _ _ _ _ _ h' (Stt.fromRoot S S'), fun s' v H' r g' B' al' h' S' => ends.rt s' v H' r g' B' al' h' ((Stt.fromRoot S S').push (rv_cl rfl rfl (S'.top rfl))), fun s' H' g' B' al' h' S' => ends.bk _ _ _ _ _ h' (Stt.fromRoot S S'), fun s' H' g' B' al' h' S' => ends.ct _ _ _ _ _ h' (Stt.fromRoot S S'), rfl⟩
end
end DL
set_option Elab.async false
set_option linter.all false
set_option maxRecDepth 100000
set_option maxHeartbeats 4000000
set_option autoImplicit false
namespace DL
open PySem PySem.Spec PyProof.Rows L2
variable [Tx]
def fAttr (cs : List Str) (f : Str) (e : FE) : FE := fun g => (e g).bind fun r g1 => match r with
  | .x n => if cs.contains n.cls then match n.fld.lookup f with
      | some x => .ok (.d x) g1
      | none => .no else .no
  | _ => .no
def tXfO (K : PySem.W.Frag) (f : Str) (te : TE) : TE := fun σ H Q => te σ H fun x H1 => ∃ (a C dd : Addr) (fs : List (Str × V)) (v : V), x = .ref a ∧ H1 a = some (excO a C (some dd)) ∧ XfC K C ∧ PySem.W.findIn K (.ref C) f = some none ∧ H1 dd = some (.xd fs) ∧ fs.lookup f = some v ∧ Q v H1
theorem pe_xfO {X : Cx} {e : Expr} {te : TE} {pos : Pos} {n : Str} (he : PE X e te) (hb : attributeBase e n X.env (eval e X.env) = eval e X.env := by rfl) : PE X (.Attribute e n pos) (tXfO X.K n te) := by
  refine ⟨fun pins s σ H Q I h => ?_⟩
  refine attr_of hb (thn (he.run pins s σ H _ I h) fun u s1 hh => ?_)
  obtain ⟨x, H1, I1, rx, a, C, dd, fs, v, ex, eo, T, hno, ea, l, q⟩ := hh
  subst ex
  obtain rfl : u = Value.ref a := rx
  have ho : ObjOk X.prog X.w H1 s1.heap a (.ext fun h => ∃ (o : Obj) (vs : Array Value), h.get? a = some o ∧ o.cls = .ref C ∧ o.dict = some dd ∧ o.data = .fields vs) := I1.hok a _ eo
  obtain ⟨⟨oe, vs, ha, hc, hdd, hd⟩, _, _⟩ := ho
  have hx : ObjOk X.prog X.w H1 s1.heap dd (.xd fs) := I1.hok dd _ ea
  obtain ⟨mA, hns, hr⟩ := hx
  obtain ⟨od, hod, hl⟩ := lookIn_ns hns
  obtain ⟨u, hu, ru⟩ := RelO.some_of (v := v) (o := mA n) (by rw [← l]; exact hr n)
  have J : PySem.W.InstAt s1.heap a oe C (some od) := ⟨ha, hc, by unfold PySem.W.notCls; rw [hd] <;> rfl, by rw [hdd]; exact hod⟩
  exact HandSPX.exc_get I1.kIn J T.ga T.gg T.exC (PySem.W.findObj_own T.hdC hno rfl (by rw [hl, hu])) (handed_of ru) ⟨v, H1, I1.tok _, ru, q⟩
theorem fld_look {B : Hp} {f : Str} : ∀ {us : List (Str × V)} {fl : List (Str × PyData)} {x : PyData}, Paired (fun (p : Str × V) (q : Str × PyData) => p.1 = q.1 ∧ Dq B p.2 q.2) us fl → fl.lookup f = some x → ∃ v, us.lookup f = some v ∧ Dq B v x
  | _, _, _, .nil, h => by cases h
  | (k, v) :: us, (k', d) :: fl, x, .cons ⟨e, hd⟩ r, h => by
    have e : k = k' := e
    subst e
    rw [List.lookup_cons] at h ⊢
    by_cases hk : (f == k) = true
    · rw [hk] at h ⊢
      simp only at h ⊢
      cases h
      exact ⟨v, rfl, hd⟩
    · have hk : (f == k) = false := by simpa using hk
      rw [hk] at h ⊢
      exact fld_look r h
section
variable {ρ : Root} {X : Cx} {dx : DX} {e : Expr} {fe : FE} {f : Str} {cs : List Str} {pos : Pos}
theorem q_attr (hT : ∀ c ∈ cs, XfC X.K (ρ.cl c) ∧ PySem.W.findIn X.K (.ref (ρ.cl c)) f = some none) (he : PF ρ X dx e fe) (hb : attributeBase e f X.env (eval e X.env) = eval e X.env := by rfl) : PF ρ X dx (.Attribute e f pos) (fAttr cs f fe) := by
  refine pe_imp (pe_xfO he hb) fun σ H Q h => ?_
  obtain ⟨F, g, tm, k, B, al, S, hd, q⟩ := h
  refine ⟨F, g, tm, _, B, al, S, go_bind.mp hd, fun v H1 r g1 B1 al1 hk S1 => ?_⟩
  cases r with
  | x n =>
    have hk : (if cs.contains n.cls = true then (match n.fld.lookup f with
      | some x => (.ok (.d x) g1 : Out R)
      | none => .no) else .no).go dx k := hk
    by_cases hc : cs.contains n.cls = true
    · rw [if_pos hc] at hk
      obtain ⟨T, hno⟩ := hT n.cls (by simpa using hc)
      obtain ⟨a, d, h1, h2, h3⟩ := S1.top rfl
      have h1 : v = .ref a := h1
      cases hl : n.fld.lookup f with
      | none => rw [hl] at hk; exact hk.elim
      | some x =>
        rw [hl] at hk
        rcases h3 with ⟨h4, _⟩ | ⟨d0, us, h4, h5, h6⟩
        · rw [h4] at hl; cases hl
        · subst h4
          obtain ⟨w, hw, hdq⟩ := fld_look h6 hl
          exact ⟨a, ρ.cl n.cls, d0, us, w, h1, S1.bh _ _ h2, T, hno, S1.bh _ _ h5, hw, q w H1 _ g1 B1 al1 hk ((S1.temps fun p hp => List.mem_cons_of_mem _ hp).push hdq)⟩
    · rw [if_neg hc] at hk
      exact hk.elim
  | _ => exact hk.elim
end
end DL
set_option Elab.async false
set_option linter.all false
set_option maxRecDepth 100000
set_option maxHeartbeats 4000000
set_option autoImplicit false
namespace DL
open PySem PySem.Spec PySem.Calls PyProof.Rows PySem.W
variable [Tx]
section
variable {prog : Program} {w : World} {A : Around} {E : Value → Shared → Prop} {s : Shared} {K : Frag} {x D : Addr} {ox : Obj}
theorem findObj_dataO {C : Addr} {name : Str} {a g : Value} {od : Option Obj} (hc : (clsIn K C).isSome = true) (ha : findIn K (.ref C) name = some (some a)) (hg : specialIn K a "__get__" = some (some g)) (ht : takesIn K a = some true) : findObj K C od name = some (.bind g a) := by
  obtain ⟨cd, hc⟩ := Option.isSome_iff_exists.mp hc
  unfold findObj
  rw [hc, Option.bind_some, ha, Option.bind_some]
  simp [hg, ht]
theorem kin_classO {od : Option Obj} {Q : Option Value → Shared → Prop} (hga : findIn K (.ref D) "__getattribute__" = some (some (.builtin "BaseException.__getattribute__"))) (hgt : findIn K (.ref D) "__getattr__" = some none) (hsub : subIn K (.ref D) (.type "BaseException") = some true)
    (hdct : hasDictIn K D = true) (ha : findIn K (.ref D) "__class__" = some (some (.builtin "object.__class__")))
    (hn : specialIn K (.builtin "object.__class__") "__get__" = some (some (.builtin "getset_descriptor.__get__"))) (htk : takesIn K (.builtin "object.__class__") = some true) (hm : mroIn K D (.type "object") = some true)
    (X : K.In s.heap) (I : InstAt s.heap x ox D od) (h : Q (some (.ref D)) { s with toks := s.toks + 1 }) : wpAny (model prog w) A (getAttr? (.ref x) "__class__") Q E s := by
  have hf : findObj K D od "__class__" = some (.bind (.builtin "getset_descriptor.__get__") (.builtin "object.__class__")) := findObj_dataO (by obtain ⟨cd, hc, _⟩ := any_some hdct; rw [hc]; rfl) ha hn htk
  obtain ⟨hp, g, d, t, os⟩ := s
  have L0 := I.type (M := model prog w)
  have L1 := looks_findIn (M := model prog w) X hga
  have L2 := looks_findIn (M := model prog w) X hgt
  have L3 := looks_find (M := model prog w) X I hf
  have sub : Looks (model prog w) hp (isInstance (.ref x) (.type "BaseException")) true := L0.andThen (looks_subIn X hsub)
  have hx0 : (false && onTheHeap (Value.builtin "BaseException.__getattribute__")) = false := rfl
  have hx2 : (Value.builtin "BaseException.__getattribute__" == Value.builtin "object.__getattribute__") = false := by decide +kernel
  have hx1 : (onTheHeap (Value.ref D) && Value.builtin "BaseException.__getattribute__" == Value.builtin "object.__getattribute__") = false := by rw [hx2]; rfl
  unfold getAttr? getAttrBy? getAttrBy
  refine wpAny_bind (wpAny_mkText (wpAny_bind (wpAny_attempt (wpAny_holding (wpAny_bind (L0.at (wpAny_bind (L1.at ?_))))))))
  show wpAny _ _ (if (onTheHeap (Value.ref D) && Value.builtin "BaseException.__getattribute__" == Value.builtin "object.__getattribute__") = true then _ else _) _ _ _
  rw [hx1, if_neg Bool.false_ne_true]
  unfold getAttrByItsOwn hookBefore
  refine wpAny_bind ?_
  rw [if_pos (show onTheHeap (Value.ref D) = true from rfl)]
  refine L2.at ?_
  refine wpAny_bind (wpAny_attempt (wpAny_holding ?_))
  unfold callGetattribute
  rw [hx0, if_neg Bool.false_ne_true]
  unfold boundAndCalled
  rw [PySem.F.excAttr_ValueError.ga.bind (.ref x)]
  refine wpAny_bind (wpAny_pure ?_)
  show wpAny _ _ (call (.builtin "BaseException.__getattribute__") [.ref x, .str "__class__" t]) _ _ _
  refine wpAny_call (codeAny_call_builtin PySem.F.excAttr_ValueError.ga.plain PySem.F.entry_bexc_ga ?_)
  refine @check_slot (model prog w) _ _ ⟨hp, g, d, t + 1, os⟩ "BaseException.__getattribute__" "BaseException" "__getattribute__" (.ref x) [.str "__class__" t] [] _ (by decide +kernel) (by decide +kernel) sub (PySem.F.args_bexc_ga (.ref x) (.str "__class__" t)) ?_
  unfold Builtin.«object.__getattribute__»
  refine wpAny_bind (wpAny_of_eq (a := ((Value.ref x : Value), [Value.str "__class__" t])) (by first | rfl | (simp only [slotArgs]; rfl)) ?_)
  refine wpAny_bind (wpAny_pure (wpAny_bind (L0.at (wpAny_bind (L3.at ?_)))))
  show wpAny _ _ (holding [Value.builtin "object.__class__"] (call (.builtin "getset_descriptor.__get__") [.builtin "object.__class__", .ref x, .ref D]) >>= ret) _ _ _
  refine wpAny_bind (wpAny_holding (wpAny_call (class_get (s := ⟨hp, g, d, t + 1, os⟩) (ox := ox) (od := od) X I hm ?_)))
  refine wpAny_pure ?_
  show wpAny _ _ (handedOut (.ref D)) _ _ _
  rw [handedOut_of (v := .ref D) rfl]
  first
    | exact wpAny_pure (wpAny_pure h)
    | exact wpAny_pure h
    | exact wpAny_pure (wpAny_bind (wpAny_pure (wpAny_pure h)))
theorem kitx_excO {od : Option Obj} (C : L2.ExcC K D) : KitX K (.ref x) (.ref D) (fun h => InstAt h x ox D od) where
  ty := fun _ _ _ I => I.type
  it := fun _ _ X _ => by
    obtain ⟨cdD, hcD, _⟩ := any_some C.hd
    unfold clsIn at hcD
    split at hcD
    · rename_i c' d' cd' sl' ho
      intro A' Q' E' s' k q
      unfold isType loadHead
      exact wpAny_bind (wpAny_loadPart (k _ _ (X _ _ ho)) (wpAny_pure q))
    · cases hcD
  ne := fun h tp dd its n sl X htp => by
    obtain ⟨cdD, hcD, _⟩ := any_some C.hd
    refine Bool.eq_false_iff.mpr fun q => ?_
    have e : D = tp := Value.ref.inj (beq_iff_eq.mp q)
    subst e
    unfold clsIn at hcD
    split at hcD
    · rename_i c' d' cd' sl' ho
      have z := (X _ _ ho).symm.trans htp
      cases z
    · cases hcD
  ca := fun X I k => kin_classO C.hg C.hk C.hs C.hd C.ha C.hn C.ht C.hm X I k
end
end DL
set_option Elab.async false
set_option linter.all false
set_option maxRecDepth 100000
set_option maxHeartbeats 4000000
set_option autoImplicit false
namespace DL
open PySem PySem.Spec PyProof.Rows L2
variable [Tx]
def rIsO (K : PySem.W.Frag) : List V → Hp → VK → Prop := fun xs H Q => ∃ (a D : Addr) (d : Option Addr) (c : V) (cv : Value) (b : Bool), xs = [.ref a, c] ∧ H a = some (excO a D d) ∧ (∀ dd, d = some dd → ∃ fs, H dd = some (.xd fs)) ∧ ExcC K D ∧ (∀ u, RelV c u → u = cv) ∧ PySem.W.kitOne K (.ref D) cv = some b ∧ Q (.bl b) H
theorem call_isO {X : Cx} : CallR X (.builtin "isinstance") (rIsO X.K) := by
  intro pins s σ H xs us Q I r h
  obtain ⟨a, D, d, c, cv, b, rfl, eo, hdd, C, hcv, e, q⟩ := h
  obtain ⟨u1, u2, rfl, rx, rt⟩ := vals2 r
  cases rx
  have ec := hcv _ rt
  subst ec
  have ho : ObjOk X.prog X.w H s.heap a (.ext fun h => ∃ (o : Obj) (vs : Array Value), h.get? a = some o ∧ o.cls = .ref D ∧ o.dict = d ∧ o.data = .fields vs) := I.hok a _ eo
  obtain ⟨⟨oe, vs, ha, hc, hd, hv⟩, _, _⟩ := ho
  have nc : PySem.W.notCls oe = true := by unfold PySem.W.notCls; rw [hv] <;> rfl
  cases d with
  | none =>
    have J : PySem.W.InstAt s.heap a oe D none := ⟨ha, hc, nc, by rw [hd]; trivial⟩
    exact PySem.W.kia_one (kitx_excO C) I.kIn J e (fun z => nomatch z) fun tk => ⟨.bl b, H, I.tok tk, rfl, q⟩
  | some dd =>
    obtain ⟨fs, ed⟩ := hdd dd rfl
    have hx : ObjOk X.prog X.w H s.heap dd (.xd fs) := I.hok dd _ ed
    obtain ⟨mA, hns, hr⟩ := hx
    obtain ⟨od, hod, hl⟩ := lookIn_ns hns
    have J : PySem.W.InstAt s.heap a oe D (some od) := ⟨ha, hc, nc, by rw [hd]; exact hod⟩
    exact PySem.W.kia_one (kitx_excO C) I.kIn J e (fun z => nomatch z) fun tk => ⟨.bl b, H, I.tok tk, rfl, q⟩
def fIsX (t : Str → Option Bool) (t0 : Option Bool) (e : FE) : FE := fun g => (e g).bind fun r g1 => match r with
  | .x n => ofO ((t n.cls).map fun b => .d (.bool b)) g1
  | .d .none => ofO (t0.map fun b => .d (.bool b)) g1
  | _ => .no
theorem call_or {X : Cx} {f : Value} {r1 r2 : List V → Hp → VK → Prop} (h1 : CallR X f r1) (h2 : CallR X f r2) : CallR X f (fun xs H Q => r1 xs H Q ∨ r2 xs H Q) := by
  intro pins s σ H xs us Q I r h
  rcases h with h | h
  · exact h1 pins s σ H xs us Q I r h
  · exact h2 pins s σ H xs us Q I r h
section
variable {ρ : Root} {X : Cx} {dx : DX} {e : Expr} {fe : FE} {p p1 pos : Pos} {x : Str} {cV : V} {cv : Value} {t : Str → Option Bool} {t0 : Option Bool}
theorem q_isX (hg : Gl X "isinstance") (hm : X.mg "isinstance" = none) (hcls : PE X (.Name x p1) (tC cV)) (hcv : ∀ u, RelV cV u → u = cv) (hcl : ClsV cV cv) (hk : ∀ c b, t c = some b → ExcC X.K (ρ.cl c) ∧ PySem.W.kitOne X.K (.ref (ρ.cl c)) cv = some b) (hk0 : ∀ b, t0 = some b → PySem.W.kitOne X.K (.type "NoneType") cv = some b)
    (he : PF ρ X dx e fe) (hs : starEach [e, .Name x p1] X.env = (false, eval e X.env) :: starEach [.Name x p1] X.env := by rfl) :
    PF ρ X dx (.Call (.Name "isinstance" p) [e, .Name x p1] [] pos) (fIsX t t0 fe) := by
  refine pe_imp (pe_callB (call_or call_isO call_isi) hg hm (by decide +kernel) (pa_cons he (pa_cons hcls pa_nil rfl) hs) (by decide) (by decide) hs rfl) fun s H Q h => ?_
  obtain ⟨F, g, tm, k, B, al, S, hd, q⟩ := h
  refine ⟨F, g, tm, _, B, al, S, go_bind.mp hd, fun v H1 r g1 B1 al1 hk1 S1 => ?_⟩
  have fin : ∀ b : Bool, k (.d (.bool b)) g1 → Q (.bl b) H1 := fun b hb => q _ H1 _ g1 B1 al1 hb ((S1.temps (tm' := tm) fun p hp => List.mem_cons_of_mem _ hp).push (.bl _))
  cases r with
  | x n =>
    have hk1 : (ofO ((t n.cls).map fun b => R.d (.bool b)) g1).go dx k := hk1
    cases ht : t n.cls with
    | none => rw [ht] at hk1; exact hk1.elim
    | some b =>
      rw [ht] at hk1
      obtain ⟨C, e1⟩ := hk n.cls b ht
      obtain ⟨a, d, h1, h2, h3⟩ := S1.top rfl
      have h1 : v = .ref a := h1
      subst h1
      refine .inl ⟨a, ρ.cl n.cls, d, cV, cv, b, rfl, S1.bh _ _ h2, fun dd e => ?_, C, hcv, e1, fin b hk1⟩
      rcases h3 with ⟨_, h4⟩ | ⟨d0, us, h4, h5, _⟩
      · rw [h4] at e; cases e
      · rw [h4] at e; cases e; exact ⟨us, S1.bh _ _ h5⟩
  | d y =>
    cases y with
    | none =>
      have hk1 : (ofO (t0.map fun b => R.d (.bool b)) g1).go dx k := hk1
      cases ht : t0 with
      | none => rw [ht] at hk1; exact hk1.elim
      | some b =>
        rw [ht] at hk1
        have hv := dq_none (S1.top rfl)
        have hv : v = .non := hv
        subst hv
        exact .inr ⟨.non, cV, .type "NoneType", cv, b, rfl, hcl, .base .non, hk0 b ht, fin b hk1⟩
    | _ => exact hk1.elim
  | _ => exact hk1.elim
end
end DL
set_option Elab.async false
set_option linter.all false
set_option maxRecDepth 100000
set_option maxHeartbeats 4000000
set_option autoImplicit false
namespace DL
open PySem PySem.Spec PyProof.Rows L2
variable [Tx]
/-- the text can be made, whatever it is -/
def JsOk (K : PySem.W.Frag) (i : Nat) (tj : TE) : Prop := ∀ σ H Q y, σ[i]? = some (some y) → shV K H y → (∀ z, Q (.str z) H) → tj σ H Q
theorem emp_len (z : Str) : (Str.empty ++ z).length = z.length := by rw [Str.length_append]; show 0 + z.length = _; omega
def tJ2 (K : PySem.W.Frag) (z1 : Str) : TE := fun σ H Q => tJs [tC (.str z1), tFmtS K (tVar 1)] Str.empty σ H fun out H1 => Q (.str out) H1
/-- f'text{p}' -/
theorem jsok2 {K : PySem.W.Frag} {z1 : Str} (hl : z1.length ≤ 1000) : JsOk K 1 (tJ2 K z1) := fun σ H Q y hn hi q => by
  refine ⟨z1, rfl, by rw [emp_len, sizeLine_eq]; omega, ⟨y, hn, hi, fun m hm => ⟨m, rfl, ?_, q _⟩⟩⟩
  rw [Str.length_append, emp_len, sizeLine_eq]
  omega
section
variable {P : Program} {w : World} {fr : PySem.W.Frag} {mg : Str → Option Value} {base : Heap}
/-- __init__(self, p): BASE.__init__(self, js); self.f = p -/
theorem init_ok {CX : CXT} {qual : Str} {st : Stmt} {f : Addr} {fd : FuncData} {k : Nat} {C : Addr} {fld pn : Str} {B newId initId : String} {bmB : List Value}
    (F : Fun fr "__init__" qual st f fd) (S : FnScope ["self", pn] ["self", pn] (defScope st)) (T : OexB fr C B newId initId bmB) (hno : PySem.W.findIn fr (.ref C) fld = some none)
    (body : ∀ (cdv : Value) (A : Around) (outer : List Env) (s : Shared) (H : Hp) (E : XK), Calm k (A.deeper (envOfC qual (defScope st) s.heap.objs.size f cdv)) → ∃ tj : TE, JsOk fr 1 tj ∧
      PSs (cxOf CX P w fr mg base ["self", pn] qual (defScope st) f cdv A outer s H E) (defBody st) (tSeq (tDrop (tBI fr B newId initId bmB (L2.tCons (tVar 0) (L2.tCons tj L2.tNil)))) (tOstB fr fld (tVar 0) (tVar 1)))) :
    FnG P w fr mg base CX (k + 1) f fd ["self", pn] (spI fr C fld) := by
  refine DL.Fun.goes F S (fun vs H Q E h => ?_) (fun cdv A outer s H vs Q E hr h => ?_)
  · obtain ⟨a, i, rfl, _⟩ := h; rfl
  · obtain ⟨a, y, rfl, hi, ea, q⟩ := h
    obtain ⟨tj, hj, hb⟩ := body cdv A outer s H E hr
    refine ⟨_, hb, ?_⟩
    have e0 : (start ["self", pn] [V.ref a, y])[0]? = some (some (V.ref a)) := rfl
    have e1 : (start ["self", pn] [V.ref a, y])[1]? = some (some y) := rfl
    refine ⟨V.ref a, e0, hj _ _ _ y e1 hi fun z => ?_⟩
    refine ⟨a, C, [.str z], rfl, by simp, T, ea, ?_⟩
    refine ⟨y, e1, V.ref a, e0, a, C, rfl, ⟨B, newId, initId, bmB, T⟩, hno, ea, fun dx n ne => q dx n ne⟩
end
end DL
set_option Elab.async false
set_option linter.all false
set_option maxRecDepth 100000
set_option maxHeartbeats 4000000
set_option autoImplicit false
namespace DL
open PySem PySem.Spec PyProof.Rows L2
variable [Tx]
abbrev Fx := PySem.W.Frag → Bool
def obsX (fx : List Fx) (fa : List He.Fa) (fn : List He.DefD) (K : PySem.W.Frag) : He.AlD := ((fx.all fun f => f K) && (He.obsD fa fn K).1, (He.obsD fa fn K).2)
def SaysX (fx : List Fx) (fa : List He.Fa) (fn : List He.DefD) (K : PySem.W.Frag) : Prop := obsX fx fa fn K = He.valD fn
def obsXG (n : Nat) (fx : List Fx) (fa : List He.Fa) (fn : List He.DefD) (g : Addr → Option Obj) : He.AlD := obsX fx fa fn (He.frG g (He.asD g n))
def hookX (n : Nat) (fx : List Fx) (fa : List He.Fa) (fn : List He.DefD) : PySem.W.Hook where
  α := He.AlD
  obs := fun s => obsXG n fx fa fn s.heap.get?
  val := fun _ => He.valD fn
  says := fun _ h => ∃ K : PySem.W.Frag, K.In h ∧ SaysX fx fa fn K
  of := fun _ _ e => ⟨_, He.frG_in, e⟩
  keeps := fun _ _ _ ⟨K, hK, c⟩ k => ⟨K, PySem.W.Frag.In.keeps hK k, c⟩
theorem obsXG_eq {n : Nat} {fx : List Fx} {fa : List He.Fa} {fn : List He.DefD} {g : Addr → Option Obj} {s : Shared} (h : ∀ a, g a = s.heap.get? a) : obsXG n fx fa fn g = (hookX n fx fa fn).obs s := by
  have e : g = s.heap.get? := funext h
  rw [e] <;> rfl
section
variable {fx : List Fx} {fa : List He.Fa} {fn : List He.DefD} {K : PySem.W.Frag}
theorem SaysX.old (c : SaysX fx fa fn K) : He.SaysD fa fn K := by
  have c1 : ((fx.all fun f => f K) && (He.obsD fa fn K).1) = true := congrArg (fun z : He.AlD => z.1) (show obsX fx fa fn K = He.valD fn from c)
  have c2 : (obsX fx fa fn K).2 = (He.valD fn).2 := congrArg (fun z : He.AlD => z.2) (show obsX fx fa fn K = He.valD fn from c)
  have c3 : (He.obsD fa fn K).1 = true := (Bool.and_eq_true_iff.mp c1).2
  exact Prod.ext c3 c2
theorem SaysX.own (c : SaysX fx fa fn K) (i : Nat) {f : Fx} (h : fx[i]? = some f := by rfl) : f K = true := by
  have c1 : ((fx.all fun f => f K) && (He.obsD fa fn K).1) = true := congrArg (fun z : He.AlD => z.1) (show obsX fx fa fn K = He.valD fn from c)
  exact List.all_eq_true.mp (Bool.and_eq_true_iff.mp c1).1 f (List.mem_of_getElem? h)
end
/-- one error's class, as the head shows it -/
def oexB (bmB : List Value) (newId : String) (x : Str) (fs : List Str) : Fx := fun K =>
  PySem.W.excInitIn K (He.ga K x) bmB newId && (PySem.W.hasDictIn K (He.ga K x) && (decide (PySem.W.findIn K (.ref (He.ga K x)) "__setattr__" = some (some (.builtin "object.__setattr__"))) && (decide (PySem.W.subIn K (.ref (He.ga K x)) (.type "BaseException") = some true) &&
  (decide (PySem.W.typeIn K (.ref (He.ga K x)) = some (.type "type")) && (PySem.W.keepIn K (.ref (He.ga K x)) && fs.all fun f => decide (PySem.W.findIn K (.ref (He.ga K x)) f = some none))))))
theorem oexB_ok {bmB : List Value} {B newId initId : String} {x : Str} {fs : List Str} {K : PySem.W.Frag} (F : ExcBaseFacts B newId initId bmB) (SF : StoreFacts B bmB "object.__setattr__" "object") (h : oexB bmB newId x fs K = true) :
    OexB K (He.ga K x) B newId initId bmB ∧ ∀ f ∈ fs, PySem.W.findIn K (.ref (He.ga K x)) f = some none := by
  unfold oexB at h
  simp only [Bool.and_eq_true, decide_eq_true_eq, List.all_eq_true] at h
  obtain ⟨h1, h2, h3, h4, h5, h6, h7⟩ := h
  refine ⟨⟨F, SF, ?_, h3, h4, h5, h6⟩, h7⟩
  unfold PySem.W.hasDictIn PySem.W.clsIn at h2
  unfold PySem.W.excInitIn at h1
  split at h1
  · rename_i dd cd sl ho
    rw [ho] at h2
    split at h1
    · rename_i C' bm k0 k1 k2 k3 n k5 hm hs
      simp only [Bool.and_eq_true, beq_iff_eq, Bool.not_eq_true'] at h1
      obtain ⟨⟨⟨e1, e2⟩, hdel⟩, ht⟩ := h1
      obtain ⟨nm, bs, mro, ns, qn, hd, sn, sub, ab, col, del⟩ := cd
      dsimp only at hm hdel
      have hh : hd = true := h2
      subst hm hdel hh e2
      have hsl : sl = #[k0, k1, k2, k3, some (.builtin n), k5] := by
        obtain ⟨l⟩ := sl
        simp only at hs
        rw [hs]
      subst hsl
      exact ⟨nm, qn, ns, bs, bm, sn, sub, ab, col, dd, k0, k1, k2, k3, k5, by rw [ho, e1], ht⟩
    · cases h1
  · cases h1
/-- what isinstance and a field's reading ask of an error's class -/
def excCB (x : Str) : Fx := fun K =>
  decide (PySem.W.findIn K (.ref (He.ga K x)) "__getattribute__" = some (some (.builtin "BaseException.__getattribute__"))) && (decide (PySem.W.findIn K (.ref (He.ga K x)) "__getattr__" = some none) && (decide (PySem.W.subIn K (.ref (He.ga K x)) (.type "BaseException") = some true) && (PySem.W.hasDictIn K (He.ga K x) &&
  (decide (PySem.W.findIn K (.ref (He.ga K x)) "__class__" = some (some (.builtin "object.__class__"))) && (decide (PySem.W.specialIn K (.builtin "object.__class__") "__get__" = some (some (.builtin "getset_descriptor.__get__"))) &&
  (decide (PySem.W.takesIn K (.builtin "object.__class__") = some true) && decide (PySem.W.mroIn K (He.ga K x) (.type "object") = some true)))))))
theorem excCB_ok {x : Str} {K : PySem.W.Frag} (h : excCB x K = true) : ExcC K (He.ga K x) ∧ XfC K (He.ga K x) := by
  unfold excCB at h
  simp only [Bool.and_eq_true, decide_eq_true_eq] at h
  obtain ⟨h1, h2, h3, h4, h5, h6, h7, h8⟩ := h
  exact ⟨⟨h1, h2, h3, h4, h5, h6, h7, h8⟩, ⟨h1, h2, h3, h4⟩⟩
end DL
set_option Elab.async false
set_option linter.all false
set_option maxRecDepth 100000
set_option maxHeartbeats 4000000
set_option autoImplicit false
namespace DL
open PySem PySem.Spec PyProof.Rows L2
variable [Tx]
def rIsOT (K : PySem.W.Frag) : List V → Hp → VK → Prop := fun xs H Q => ∃ (a D tp : Addr) (d : Option Addr) (cs : List V) (us : List Value) (b : Bool), xs = [.ref a, .ref tp] ∧ H tp = some (.tup cs) ∧ Paired ClsV cs us ∧ H a = some (excO a D d) ∧ (∀ dd, d = some dd → ∃ fs, H dd = some (.xd fs)) ∧ ExcC K D ∧ PySem.W.kitAny K (.ref D) us = some b ∧ Q (.bl b) H
theorem call_isOT {X : Cx} : CallR X (.builtin "isinstance") (rIsOT X.K) := by
  intro pins s σ H xs us Q I r h
  obtain ⟨a, D, tp, d, cs, ws, b, rfl, hT, k, eo, hdd, C, e, q⟩ := h
  obtain ⟨u1, u2, rfl, rx, rt⟩ := vals2 r
  cases rx
  cases (show u2 = Value.ref tp from rt)
  obtain ⟨_, its, rv, o, h1, h2, n, h3⟩ := (show ObjOk X.prog X.w H s.heap tp (.tup cs) from I.hok tp _ hT)
  have e3 := ClsV.all k rv
  subst e3
  obtain ⟨oc, od', dt, sl⟩ := o
  simp only at h2 h3
  subst h2 h3
  have ho : ObjOk X.prog X.w H s.heap a (.ext fun h => ∃ (o : Obj) (vs : Array Value), h.get? a = some o ∧ o.cls = .ref D ∧ o.dict = d ∧ o.data = .fields vs) := I.hok a _ eo
  obtain ⟨⟨oe, vs, ha, hc, hd, hv⟩, _, _⟩ := ho
  have nc : PySem.W.notCls oe = true := by unfold PySem.W.notCls; rw [hv] <;> rfl
  cases d with
  | none =>
    have J : PySem.W.InstAt s.heap a oe D none := ⟨ha, hc, nc, by rw [hd]; trivial⟩
    exact PySem.W.kia_tup (kitx_excO C) I.kIn J h1 e (fun z => nomatch z) fun tk => ⟨.bl b, H, I.tok tk, rfl, q⟩
  | some dd =>
    obtain ⟨fs, ed⟩ := hdd dd rfl
    have hx : ObjOk X.prog X.w H s.heap dd (.xd fs) := I.hok dd _ ed
    obtain ⟨mA, hns, hr⟩ := hx
    obtain ⟨od, hod, hl⟩ := lookIn_ns hns
    have J : PySem.W.InstAt s.heap a oe D (some od) := ⟨ha, hc, nc, by rw [hd]; exact hod⟩
    exact PySem.W.kia_tup (kitx_excO C) I.kIn J h1 e (fun z => nomatch z) fun tk => ⟨.bl b, H, I.tok tk, rfl, q⟩
theorem pe_names {X : Cx} {x : Str} {cV : V} {c : Value} {p : Pos} (k : ClsV cV c) (h : Names X x c) : PE X (.Name x p) (tC cV) := by
  have r : RelV cV c := by cases k <;> rfl
  obtain ⟨hg, hd, hm | ⟨hm, hv, hn⟩⟩ := h
  · exact pe_glob hg hm r hd
  · exact pe_bltn hg hm hv r hn hd
/-- classes by their names -/
inductive NmV (X : Cx) : List Expr → List V → List Value → Prop
  | nil : NmV X [] [] []
  | cons {x : Str} {cV : V} {c : Value} {np : Pos} {es : List Expr} {vs : List V} {cs : List Value} (k : ClsV cV c) (hc : Names X x c) (r : NmV X es vs cs) : NmV X (.Name x np :: es) (cV :: vs) (c :: cs)
theorem NmV.cls {X : Cx} {es : List Expr} {vs : List V} {cs : List Value} (h : NmV X es vs cs) : Paired ClsV vs cs := by
  induction h with
  | nil => exact .nil
  | cons k _ _ ih => exact .cons k ih
theorem NmV.pa {X : Cx} {es : List Expr} {vs : List V} {cs : List Value} (h : NmV X es vs cs) : PA X es (fun _ H Q => Q vs H) := by
  induction h with
  | nil => exact pa_nil
  | cons k hc _ ih => exact pa_cons (pe_names k hc) ih rfl
theorem NmV.toL {X : Cx} {es : List Expr} {vs : List V} {cs : List Value} (h : NmV X es vs cs) : NmL X es cs := by
  induction h with
  | nil => exact .nil
  | cons k hc _ ih => exact .cons hc ih
section
variable {ρ : Root} {X : Cx} {dx : DX} {e : Expr} {fe : FE} {p p1 pos : Pos} {t : Str → Option Bool} {t0 : Option Bool}
theorem q_isX1 {x : Str} {cV : V} {cv : Value} (hg : Gl X "isinstance") (hm : X.mg "isinstance" = none) (k : ClsV cV cv) (hx : Names X x cv) (hk : ∀ c b, t c = some b → ExcC X.K (ρ.cl c) ∧ PySem.W.kitOne X.K (.ref (ρ.cl c)) cv = some b) (hk0 : ∀ b, t0 = some b → PySem.W.kitOne X.K (.type "NoneType") cv = some b)
    (he : PF ρ X dx e fe) (hs : starEach [e, .Name x p1] X.env = (false, eval e X.env) :: starEach [.Name x p1] X.env := by rfl) :
    PF ρ X dx (.Call (.Name "isinstance" p) [e, .Name x p1] [] pos) (fIsX t t0 fe) := q_isX hg hm (pe_names k hx) (fun u r => k.eq r) k hk hk0 he hs
theorem q_isXs {es : List Expr} {vs : List V} {us : List Value} {kt : Nat} (hg : Gl X "isinstance") (hm : X.mg "isinstance" = none) (hn : NmV X es vs us) (hl : vs.length ≤ 1000) (hk : ∀ c b, t c = some b → ExcC X.K (ρ.cl c) ∧ PySem.W.kitAny X.K (.ref (ρ.cl c)) us = some b) (hk0 : ∀ b, t0 = some b → PySem.W.kitAny X.K (.type "NoneType") us = some b)
    (he : PF ρ X dx e fe) (hs : starEach [e, .Tuple es kt p1] X.env = (false, eval e X.env) :: starEach [.Tuple es kt p1] X.env := by rfl) :
    PF ρ X dx (.Call (.Name "isinstance" p) [e, .Tuple es kt p1] [] pos) (fIsX t t0 fe) := by
  refine pe_imp (pe_callB (call_or call_isOT call_isiT) hg hm (by decide +kernel) (pa_cons he (pa_cons (pe_tup hn.pa) pa_nil rfl) hs) (by decide) (by decide) hs rfl) fun s H Q h => ?_
  obtain ⟨F, g, tm, k, B, al, S, hd, q⟩ := h
  refine ⟨F, g, tm, _, B, al, S, go_bind.mp hd, fun v H1 r g1 B1 al1 hk1 S1 => ⟨by rw [sizeLine_eq]; omega, fun tp htp => ?_⟩⟩
  have S2 := S1.grow (o := .tup vs) htp
  have fin : ∀ b : Bool, k (.d (.bool b)) g1 → Q (.bl b) (upd H1 tp (.tup vs)) := fun b hb => q _ _ _ g1 _ al1 hb ((S2.temps (tm' := tm) fun p hp => List.mem_cons_of_mem _ hp).push (.bl _))
  cases r with
  | x n =>
    have hk1 : (ofO ((t n.cls).map fun b => R.d (.bool b)) g1).go dx k := hk1
    cases ht : t n.cls with
    | none => rw [ht] at hk1; exact hk1.elim
    | some b =>
      rw [ht] at hk1
      obtain ⟨C, e1⟩ := hk n.cls b ht
      obtain ⟨a, d, h1, h2, h3⟩ := S2.top rfl
      have h1 : v = .ref a := h1
      subst h1
      refine .inl ⟨a, ρ.cl n.cls, tp, d, vs, us, b, rfl, upd_same, hn.cls, S2.bh _ _ h2, fun dd e => ?_, C, e1, fin b hk1⟩
      rcases h3 with ⟨_, h4⟩ | ⟨d0, us, h4, h5, _⟩
      · rw [h4] at e; cases e
      · rw [h4] at e; cases e; exact ⟨us, S2.bh _ _ h5⟩
  | d y =>
    cases y with
    | none =>
      have hk1 : (ofO (t0.map fun b => R.d (.bool b)) g1).go dx k := hk1
      cases ht : t0 with
      | none => rw [ht] at hk1; exact hk1.elim
      | some b =>
        rw [ht] at hk1
        have hv := dq_none (S2.top rfl)
        have hv : v = .non := hv
        subst hv
        exact .inr ⟨.non, tp, vs, .type "NoneType", us, b, rfl, upd_same, hn.cls, .base .non, hk0 b ht, fin b hk1⟩
    | _ => exact hk1.elim
  | _ => exact hk1.elim
end
end DL
set_option Elab.async false
set_option linter.all false
set_option maxRecDepth 100000
set_option maxHeartbeats 4000000
set_option autoImplicit false
namespace DL
open PySem PySem.Spec PyProof.Rows L2
variable [Tx]
def permI {α : Type} (idx : List Nat) (l : List α) : List α := idx.filterMap fun i => l[i]?
theorem permI_paired {α β : Type} {F : α → β → Prop} {xs : List α} {ys : List β} (h : Paired F xs ys) : ∀ idx : List Nat, Paired F (permI idx xs) (permI idx ys)
  | [] => .nil
  | i :: idx => by
    have ih := permI_paired h idx
    unfold permI at ih ⊢
    rw [List.filterMap_cons, List.filterMap_cons]
    have gen : ∀ {xs : List α} {ys : List β}, Paired F xs ys → ∀ i : Nat, (xs[i]? = none ∧ ys[i]? = none) ∨ ∃ a b, xs[i]? = some a ∧ ys[i]? = some b ∧ F a b := by
      intro xs ys hp
      induction hp with
      | nil => intro i; exact .inl ⟨rfl, rfl⟩
      | cons a b ih =>
        intro i
        cases i with
        | zero => exact .inr ⟨_, _, rfl, rfl, a⟩
        | succ i => exact ih i
    rcases gen h i with ⟨e1, e2⟩ | ⟨a, b, e1, e2, hab⟩
    · rw [e1, e2]; exact ih
    · rw [e1, e2]; exact .cons hab ih
def gK (idx : List Nat) {α : Type} : List α → List α → List α
  | [], ws => permI idx ws
  | _ :: _, _ => []
theorem Fun.kbindsN {K : PySem.W.Frag} {x qual : Str} {st : Stmt} {f : Addr} {fd : FuncData} {ps ks : List Str} (idx : List Nat) (F : Fun K x qual st f fd) (hp : ps ≠ [])
    (h : ∀ (kV doc pm : Value) (an : Option Addr) (cdv ct : Value) (ws : List Value), (permI idx ws).length = ps.length → bindArgs (PySem.W.fnOf x qual (defArgs st) (defBody st) (defScope st) .none kV doc pm an cdv ct) ⟨[], ks.zip ws⟩ = pure (ps.zip (permI idx ws))) : KBinds K fd ps ks (gK idx) (gK idx) := by
  obtain ⟨oc, od, kV, doc, pm, an, cdv, ct, osl, rfl, lk, hcd⟩ := F.ex
  refine ⟨fun s us ws _ hl => ?_, fun {vs us zs ws} r rz => ?_⟩
  · cases us with
    | nil => exact .of_eq (h kV doc pm an cdv ct ws hl)
    | cons u us => exact absurd (List.length_eq_zero_iff.mp hl.symm) hp
  · cases r with
    | nil => exact permI_paired rz idx
    | cons _ _ => exact .nil
abbrev PFK (ρ : Root) (X : Cx) (dx : DX) (kws : List Keyword) (f : FAr) : Prop := PK X kws (liftA ⟨X.K, ρ⟩ (rd dx f))
def fPerm (idx : List Nat) (fs : FAr) : FAr := fun g => (fs g).bind fun rs g1 => .ok (permI idx rs) g1
section
variable {ρ : Root} {X : Cx} {dx : DX} {e : Expr} {kws : List Keyword} {kpos p pos : Pos} {nm : Option Str} {fe : FE} {fs : FAr}
theorem pk_imp {t t' : TA} (h : PK X kws t) (i : ∀ s H Q, t' s H Q → t s H Q) : PK X kws t' := ⟨fun p pins s σ H Q I q => h.run p pins s σ H Q I (i σ H Q q)⟩
theorem qk_nil : PFK ρ X dx [] fNil := pk_imp pk_nil fun s H Q ⟨F, g, tm, k, B, al, S, hk, q⟩ => q [] H [] g B al hk S .nil
theorem qk_cons (ha : PF ρ X dx e fe) (hr : PFK ρ X dx kws fs) : PFK ρ X dx (⟨nm, e, kpos⟩ :: kws) (fCons fe fs) :=
  pk_imp (pk_cons ha hr) fun s H Q ⟨F, g, tm, k, B, al, S, hk, q⟩ => ⟨F, g, tm, _, B, al, S, go_bind.mp hk, fun x H1 r1 g1 B1 al1 hk1 S1 => ⟨F, g1, (x, r1) :: tm, _, B1, al1, S1, go_bind.mp hk1, fun vs H2 rs g2 B2 al2 hk2 S2 pr =>
    q (x :: vs) H2 (r1 :: rs) g2 B2 al2 hk2 (S2.temps fun p hp => List.mem_cons_of_mem _ hp) (.cons (S2.tm (x, r1) List.mem_cons_self) pr)⟩⟩
def tCallK0 (sp : Sp) (idx : List Nat) (E : L2.St → XK) (tk : TA) : TE := fun σ H Q => tk σ H fun zs H2 => sp (permI idx zs) H2 Q (E σ)
theorem pe_callK0 {k : Nat} {f : Addr} {fd : FuncData} {ps ks : List Str} {sp : Sp} {E : L2.St → XK} {x : Str} {tk : TA} {idx : List Nat} (F : FnG X.prog X.w X.K X.mg X.base (L2.CX X.prog X.w) k f fd ps sp) (hr : Calm k X.A) (hg : Gl X x) (hm : X.mg x = some (.ref f)) (hk : PySem.W.keepIn X.K (.ref f) = true) (hb : KBinds X.K fd ps ks (gK idx) (gK idx)) (hx : ∀ σ, PassesAt (L2.CX X.prog X.w) X σ (E σ))
    (hkw : PK X kws tk) (hall : (backToKw pos (keywordEach kws X.env)).all (·.1.isSome) = true := by rfl) (hks : (backToKw pos (keywordEach kws X.env)).filterMap (·.1) = ks := by rfl)
    (hdb : (x == ("__debug__" : Str)) = false := by decide) (hpl : ((backTo pos (starEach [] X.env)).any (·.1) || (backToKw pos (keywordEach kws X.env)).any (·.1.isNone)) = false := by rfl) :
    PE X (.Call (.Name x p) [] kws pos) (tCallK0 sp idx E tk) := by
  refine ⟨fun pins s σ H Q I h => ?_⟩
  refine wpAny_Call_Name_kw (ld_glob I hg hm ?_ hdb)
  refine PySem.W.callWith_KW0 (h₀ := X.base) I.ok.mod.kin hk hall (thn (hkw.run pos pins s σ H _ I h) fun ws s2 ⟨zs, H2, I2, rz, q2⟩ => ⟨I2.kIn, ?_⟩) hpl
  rw [hks]
  have r2 : Vals (permI idx zs) (permI idx ws) := permI_paired rz idx
  have hl : (gK idx ([] : List Value) ws).length = ps.length := by
    show (permI idx ws).length = _
    rw [← r2.length]; exact F.count _ _ _ _ q2
  exact runs_G (as := ⟨[], ks.zip ws⟩) F hr I2 (fun v s' q => hx σ pins H2 s2 v s' I2 q) (hb.to s2 [] ws I2.kIn hl) r2 q2
theorem q_callK (own : Bool) {k : Nat} {f : Addr} {fd : FuncData} {ps ks : List Str} {x : Str} {fn : Fn} (idx : List Nat) (tk : Takes X (liftX ⟨X.K, ρ⟩ dx)) (G : FnG X.prog X.w X.K X.mg X.base (L2.CX X.prog X.w) k f fd ps (spF X.K ρ.cl ps.length fn)) (hr : Calm k X.A) (hg : Gl X x) (hm : X.mg x = some (.ref f)) (hk : PySem.W.keepIn X.K (.ref f) = true) (hb : KBinds X.K fd ps ks (gK idx) (gK idx))
    (ha : PFK ρ X dx kws fs) (hn : nArgs ps.length fs) (hi : ∀ rs : List R, rs.length = ps.length → (permI idx rs).length = ps.length)
    (hall : (backToKw pos (keywordEach kws X.env)).all (·.1.isSome) = true := by rfl) (hks : (backToKw pos (keywordEach kws X.env)).filterMap (·.1) = ks := by rfl)
    (hdb : (x == ("__debug__" : Str)) = false := by decide) (hpl : ((backTo pos (starEach [] X.env)).any (·.1) || (backToKw pos (keywordEach kws X.env)).any (·.1.isNone)) = false := by rfl) : PF ρ X dx (.Call (.Name x p) [] kws pos) (fCall fn own (fPerm idx fs)) :=
  pe_imp (pe_callK0 G hr hg hm hk hb (passAt tk) ha hall hks hdb hpl) fun s H Q ⟨F, g, tm, kk, B, al, S, hk, q⟩ => by
    have hk : ((fs g).bind fun rs g1 => (Out.ok (permI idx rs) g1 : Out (List R))).bind (fun rs g1 => callF fn own rs g1) |>.go dx kk := hk
    have z := ref_callF (K := ⟨X.K, ρ⟩) (dx := dx) (fs := fPerm idx fs) (fn := fn) (own := own) (n := ps.length) s H Q ⟨F, g, tm, kk, B, al, S, (by
      show (fPerm idx fs g).go dx _
      unfold fPerm
      cases h1 : fs g with
      | no => rw [h1] at hk; exact hk
      | ex n g => rw [h1] at hk; exact hk
      | ok rs g1 => rw [h1] at hk; exact ⟨hi rs (hn g rs g1 h1), hk⟩), q⟩
    obtain ⟨F', g', tm', k', B', al', S', hk', q'⟩ := z
    refine ⟨F', g', tm', _, B', al', S', go_bind.mp hk', fun vs H1 rs g1 B1 al1 hk1 S1 pr => ?_⟩
    exact q' (permI idx vs) H1 (permI idx rs) g1 B1 al1 hk1 S1 (permI_paired pr idx)
end
end DL
set_option Elab.async false
set_option linter.all false
set_option maxRecDepth 100000
set_option maxHeartbeats 4000000
set_option autoImplicit false
namespace DL
open PySem PySem.Spec PyProof.Rows L2
variable [Tx]
theorem passF {X : Cx} : Passes (L2.CX X.prog X.w) X (fun _ _ _ => False) := fun _ _ _ _ _ _ _ h => by
  obtain ⟨_, _, _, _, _, _, _, _, _, _, _, _, h⟩ := h
  exact h.elim
def tbl (l : List (Str × Bool)) : Str → Option Bool := fun c => l.lookup c
theorem tbl_mem {c : Str} {b : Bool} : ∀ {l : List (Str × Bool)}, tbl l c = some b → (c, b) ∈ l
  | [], h => by cases h
  | (k, v) :: l, h => by
    unfold tbl at h
    rw [List.lookup_cons] at h
    by_cases hk : (c == k) = true
    · rw [hk] at h
      simp only at h
      cases h
      rw [eq_of_beq hk]
      exact List.mem_cons_self
    · have hk : (c == k) = false := by simpa using hk
      rw [hk] at h
      exact List.mem_cons_of_mem _ (tbl_mem h)
def clW (cl : Str → Addr) : Str ⊕ String → Value
  | .inl x => .ref (cl x)
  | .inr T => .type T
section
variable {K : PySem.W.Frag} {l : List (Str × Bool)} {xcs cs : List Str} {ys : List (Str ⊕ String)} {y : Str ⊕ String} {f : Str}
def excA (xcs : List Str) : Fx := fun K => xcs.all fun c => excCB c K
theorem excA_ok (h : excA xcs K = true) {c : Str} (hc : c ∈ xcs) : ExcC K (He.ga K c) ∧ XfC K (He.ga K c) := excCB_ok (List.all_eq_true.mp h c hc)
def exmT (l : List (Str × Bool)) (ys : List (Str ⊕ String)) : Fx := fun K => l.all fun p => decide (PySem.W.exmAny K (.ref (He.ga K p.1)) (ys.map (clW (He.ga K))) = some p.2)
theorem exmT_ok (h : exmT l ys K = true) : ∀ c b, tbl l c = some b → PySem.W.exmAny K (.ref (He.ga K c)) (ys.map (clW (He.ga K))) = some b := fun c b e => of_decide_eq_true (List.all_eq_true.mp h _ (tbl_mem e))
def kitT1 (l : List (Str × Bool)) (y : Str ⊕ String) : Fx := fun K => decide (PySem.W.kitOne K (.type "NoneType") (clW (He.ga K) y) = some false) && l.all fun p => decide (PySem.W.kitOne K (.ref (He.ga K p.1)) (clW (He.ga K) y) = some p.2)
theorem kitT1_ok (h : kitT1 l y K = true) (hx : excA xcs K = true) (hl : l.map Prod.fst = xcs) : (∀ c b, tbl l c = some b → ExcC K (He.ga K c) ∧ PySem.W.kitOne K (.ref (He.ga K c)) (clW (He.ga K) y) = some b) ∧ ∀ b, some false = some b → PySem.W.kitOne K (.type "NoneType") (clW (He.ga K) y) = some b := by
  obtain ⟨h1, h2⟩ := Bool.and_eq_true_iff.mp h
  refine ⟨fun c b e => ⟨(excA_ok hx ?_).1, of_decide_eq_true (List.all_eq_true.mp h2 _ (tbl_mem e))⟩, fun b e => by cases e; exact of_decide_eq_true h1⟩
  rw [← hl]
  exact List.mem_map.mpr ⟨_, tbl_mem e, rfl⟩
def kitTs (l : List (Str × Bool)) (ys : List (Str ⊕ String)) : Fx := fun K => decide (PySem.W.kitAny K (.type "NoneType") (ys.map (clW (He.ga K))) = some false) && l.all fun p => decide (PySem.W.kitAny K (.ref (He.ga K p.1)) (ys.map (clW (He.ga K))) = some p.2)
theorem kitTs_ok (h : kitTs l ys K = true) (hx : excA xcs K = true) (hl : l.map Prod.fst = xcs) : (∀ c b, tbl l c = some b → ExcC K (He.ga K c) ∧ PySem.W.kitAny K (.ref (He.ga K c)) (ys.map (clW (He.ga K))) = some b) ∧ ∀ b, some false = some b → PySem.W.kitAny K (.type "NoneType") (ys.map (clW (He.ga K))) = some b := by
  obtain ⟨h1, h2⟩ := Bool.and_eq_true_iff.mp h
  refine ⟨fun c b e => ⟨(excA_ok hx ?_).1, of_decide_eq_true (List.all_eq_true.mp h2 _ (tbl_mem e))⟩, fun b e => by cases e; exact of_decide_eq_true h1⟩
  rw [← hl]
  exact List.mem_map.mpr ⟨_, tbl_mem e, rfl⟩
def attT (cs : List Str) (f : Str) : Fx := fun K => cs.all fun c => decide (PySem.W.findIn K (.ref (He.ga K c)) f = some none)
theorem attT_ok (h : attT cs f K = true) (hx : excA xcs K = true) (hs : ∀ c ∈ cs, c ∈ xcs) : ∀ c ∈ cs, XfC K (He.ga K c) ∧ PySem.W.findIn K (.ref (He.ga K c)) f = some none := fun c hc => ⟨(excA_ok hx (hs c hc)).2, of_decide_eq_true (List.all_eq_true.mp h c hc)⟩
def iniB (C : Str) : Fx := fun K => decide (PySem.W.findIn K (.ref (He.ga K C)) "__init__" = some (some (.ref (He.fAd K (C, some "__init__"))))) && decide (PySem.W.typeIn K (.ref (He.fAd K (C, some "__init__"))) = some (.type "function"))
theorem iniB_ok {C : Str} (h : iniB C K = true) : PySem.W.findIn K (.ref (He.ga K C)) "__init__" = some (some (.ref (He.fAd K (C, some "__init__")))) ∧ PySem.W.typeIn K (.ref (He.fAd K (C, some "__init__"))) = some (.type "function") := by
  obtain ⟨h1, h2⟩ := Bool.and_eq_true_iff.mp h
  exact ⟨of_decide_eq_true h1, of_decide_eq_true h2⟩
def basB (B i : String) : Fx := fun K => match PySem.W.findCls K (.type B) (.type "type") "__init__" with
  | some (.val (.builtin s)) => decide (s = i)
  | _ => false
theorem basB_ok {B i : String} (h : basB B i K = true) : PySem.W.findCls K (.type B) (.type "type") "__init__" = some (.val (.builtin i)) := by
  unfold basB at h
  split at h
  · rename_i s e
    rw [e, of_decide_eq_true h]
  · cases h
end
end DL
set_option Elab.async false
set_option linter.all false
set_option maxRecDepth 100000
set_option maxHeartbeats 4000000
set_option autoImplicit false
namespace DL
open PySem PySem.Spec PyProof.Rows L2
def catchK (o : Option Bool) (i j : Nat) (n : Xn) (g : G) : Out Fl := match o with
  | some true => if i < g.sl.length then .ok .nx ⟨(g.sl.set j (some (.x n))).set i none, g.ce⟩ else .no
  | some false => .ex n g
  | none => .no
def tryK (hit : Str → Option Bool) (i j : Nat) (o : Out Fl) : Out Fl := match o with
  | .ex n g => catchK (hit n.cls) i j n g
  | o => o
theorem sTry_ap (hit : Str → Option Bool) (i j : Nat) (u : FS) (g : G) : sTry hit i j u g = tryK hit i j (u g) := by
  unfold sTry tryK
  cases u g with
  | ok a g => rfl
  | no => rfl
  | ex n g => exact id rfl
theorem tryK_ok (hit : Str → Option Bool) (i j : Nat) (f : Fl) (g : G) : tryK hit i j (.ok f g) = .ok f g := id rfl
theorem tryK_ex (hit : Str → Option Bool) (i j : Nat) (c : Str) (fl : List (Str × PyData)) (g : G) : tryK hit i j (.ex ⟨c, fl⟩ g) = catchK (hit c) i j ⟨c, fl⟩ g := id rfl
theorem catchK_true (i j : Nat) (n : Xn) (sl : List (Option R)) (ce : List Ct) : catchK (some true) i j n ⟨sl, ce⟩ = if i < sl.length then .ok .nx ⟨(sl.set j (some (.x n))).set i none, ce⟩ else .no := id rfl
theorem catchK_false (i j : Nat) (n : Xn) (g : G) : catchK (some false) i j n g = .ex n g := id rfl
def isxK (t : Str → Option Bool) (t0 : Option Bool) : R → G → Out R := fun r g1 => match r with
  | .x n => ofO ((t n.cls).map fun b => .d (.bool b)) g1
  | .d .none => ofO (t0.map fun b => .d (.bool b)) g1
  | _ => .no
theorem fIsX_ap (t : Str → Option Bool) (t0 : Option Bool) (e : FE) (g : G) : fIsX t t0 e g = (e g).bind (isxK t t0) := id rfl
theorem isxK_x (t : Str → Option Bool) (t0 : Option Bool) (c : Str) (fl : List (Str × PyData)) (g : G) : isxK t t0 (.x ⟨c, fl⟩) g = ofO ((t c).map fun b => .d (.bool b)) g := id rfl
theorem isxK_n (t : Str → Option Bool) (t0 : Option Bool) (g : G) : isxK t t0 (.d .none) g = ofO (t0.map fun b => .d (.bool b)) g := id rfl
def attrK (cs : List Str) (f : Str) : R → G → Out R := fun r g1 => match r with
  | .x n => if cs.contains n.cls then match n.fld.lookup f with
      | some x => .ok (.d x) g1
      | none => .no else .no
  | _ => .no
theorem fAttr_ap (cs : List Str) (f : Str) (e : FE) (g : G) : fAttr cs f e g = (e g).bind (attrK cs f) := id rfl
theorem attrK_x (cs : List Str) (f c : Str) (x : PyData) (g : G) : attrK cs f (.x ⟨c, [(f, x)]⟩) g = if cs.contains c = true then .ok (.d x) g else .no := by
  unfold attrK
  simp [List.lookup]
def raiseK (cls f : Str) : List R → G → Out Fl := fun rs g1 => match rs with
  | [.d x] => if showsD x then .ex ⟨cls, [(f, x)]⟩ g1 else .no
  | _ => .no
theorem sRaise1_ap (cls f : Str) (fs : FAr) (g : G) : sRaise1 cls f fs g = (fs g).bind (raiseK cls f) := id rfl
theorem raiseK_d (cls f : Str) (x : PyData) (g : G) : raiseK cls f [.d x] g = if showsD x = true then .ex ⟨cls, [(f, x)]⟩ g else .no := id rfl
theorem sRaise0_ap (cls : Str) (g : G) : sRaise0 cls g = .ex ⟨cls, []⟩ g := id rfl
theorem log_of {i : Int} (h : i.natAbs < 2 ^ 1000) : i.natAbs.log2 < 1920 := by
  by_cases h0 : i.natAbs = 0
  · rw [h0]; decide
  · have := (Nat.log2_lt h0 (k := 1000)).mpr h
    omega
theorem shows_int {i : Int} (h : i.natAbs < 2 ^ 1000) : showsD (.int i) = true := decide_eq_true (log_of h)
theorem shows_pD {i j : Int} (h1 : i.natAbs < 2 ^ 1000) (h2 : j.natAbs < 2 ^ 1000) : showsD (.tuple [.int i, .int j]) = true := decide_eq_true ⟨log_of h1, log_of h2⟩
def optCons {α : Type} (o : Option α) (l : List α) : List α := match o with
  | some a => a :: l
  | none => l
theorem permI_nil {α : Type} (l : List α) : permI [] l = [] := id rfl
theorem permI_cons {α : Type} (i : Nat) (idx : List Nat) (l : List α) : permI (i :: idx) l = optCons l[i]? (permI idx l) := by
  unfold permI optCons
  rw [List.filterMap_cons]
  cases l[i]? <;> rfl
theorem optCons_some {α : Type} (a : α) (l : List α) : optCons (some a) l = a :: l := id rfl
theorem fPerm_ap (idx : List Nat) (fs : FAr) (g : G) : fPerm idx fs g = (fs g).bind fun rs g1 => .ok (permI idx rs) g1 := id rfl
theorem callX_of {f : Fn} {rs : List R} {n : Xn} (h : f rs [] = .ex n []) (g : G) (own : Bool) (hb : boxes rs = [] := by rfl) (hr : rs.map (renR []) = rs := by rfl) (hL : rs.all noL = true := by rfl) : callF f own rs g = .ex n g := callF_ex h hb hr hL
end DL
set_option Elab.async false
set_option linter.all false
set_option maxRecDepth 100000
set_option maxHeartbeats 4000000
set_option autoImplicit false
namespace DL
open PySem PySem.Spec PyProof.Rows L2
variable [Tx]
def setAll {α : Type} : List (Option α) → List Nat → List α → List (Option α)
  | sl, i :: is, r :: rs => setAll (sl.set i (some r)) is rs
  | sl, _, _ => sl
def sPk (is : List Nat) (fs : FAr) : FS := fun g => (fs g).bind fun rs g1 => if rs.length = is.length then .ok .nx ⟨setAll g1.sl is rs, g1.ce⟩ else .no
theorem sPk_ap (is : List Nat) (fs : FAr) (g : G) : sPk is fs g = (fs g).bind fun rs g1 => if rs.length = is.length then .ok .nx ⟨setAll g1.sl is rs, g1.ce⟩ else .no := id rfl
theorem setAll_cons {α : Type} (sl : List (Option α)) (i : Nat) (is : List Nat) (r : α) (rs : List α) : setAll sl (i :: is) (r :: rs) = setAll (sl.set i (some r)) is rs := id rfl
theorem setAll_nil {α : Type} (sl : List (Option α)) (rs : List α) : setAll sl [] rs = sl := by cases rs <;> rfl
section
variable {ρ : Root} {X : Cx} {dx : DX} {a b e o : Expr} {es as : List Expr} {pos : Pos} {f f1 f2 : FE} {fs : FAr}
def opRep : Op2 := fun g r1 r2 => match r1, r2 with
  | .d (.list ds), .d (.int k) => if ds.length * k.toNat ≤ 100000 ∧ -(2 ^ 62) ≤ k ∧ k < 2 ^ 62 then some (.d (.list (List.replicate k.toNat ds).flatten)) else none
  | _, _ => none
theorem opRep_ap (g : G) (ds : List PyData) (k : Int) : opRep g (.d (.list ds)) (.d (.int k)) = if ds.length * k.toNat ≤ 100000 ∧ -(2 ^ 62) ≤ k ∧ k < 2 ^ 62 then some (.d (.list (List.replicate k.toNat ds).flatten)) else none := id rfl
end
end DL
set_option Elab.async false
set_option linter.all false
set_option maxRecDepth 100000
set_option maxHeartbeats 4000000
set_option autoImplicit false
namespace DL
open PySem PySem.Spec PyProof.Rows L2
variable [Tx]
section
variable {K : KR} {F : Fm} {g : G} {tm : List (V × R)} {s : L2.St} {H B : Hp} {al : List Addr}
def frzR (r : R) (g : G) : Option (PyData × G) := match r with
  | .d x => some (x, g)
  | .o j => match g.ce[j]? with
    | some (.lst ds) => some (.list ds, putC g j .dead)
    | _ => none
  | _ => none
def frzs : List R → G → Option (List PyData × G)
  | [], g => some ([], g)
  | r :: rs, g => match frzR r g with
    | some (x, g1) => match frzs rs g1 with
      | some (xs, g2) => some (x :: xs, g2)
      | none => none
    | none => none
end
def fTupF (fs : FAr) : FE := fun g => (fs g).bind fun rs g1 => match frzs rs g1 with
  | some (ds, g2) => if ds.length ≤ 1000 then .ok (.d (.tuple ds)) g2 else .no
  | none => .no
def tupK (o : Option (List PyData × G)) : Out R := match o with
  | some (ds, g2) => if ds.length ≤ 1000 then .ok (.d (.tuple ds)) g2 else .no
  | none => .no
theorem fTupF_ap (fs : FAr) (g : G) : fTupF fs g = (fs g).bind fun rs g1 => tupK (frzs rs g1) := id rfl
theorem tupK_some (ds : List PyData) (g : G) : tupK (some (ds, g)) = if ds.length ≤ 1000 then .ok (.d (.tuple ds)) g else .no := id rfl
end DL
set_option Elab.async false
set_option linter.all false
set_option maxRecDepth 100000
set_option maxHeartbeats 4000000
set_option autoImplicit false
namespace DL
open PySem PySem.Spec PyProof.Rows L2
variable [Tx]
def lstAt (g : G) (j : Nat) : Option PyData := match g.ce[j]? with
  | some (.lst ds) => some (.list ds)
  | _ => none
def lstsAt (g : G) : List Nat → Option (List PyData)
  | [] => some []
  | j :: js => match lstAt g j, lstsAt g js with
    | some x, some xs => some (x :: xs)
    | _, _ => none
def fvAt (g : G) : Fv → Option PyData
  | .d x => some x
  | .o k => lstAt g k
  | _ => none
def fvsAt (g : G) : List Fv → Option (List PyData)
  | [] => some []
  | f :: fs => match fvAt g f, fvsAt g fs with
    | some x, some xs => some (x :: xs)
    | _, _ => none
/-- an own list as data, also one of mixed items -/
def lstM (g : G) (j : Nat) : Option PyData := match g.ce[j]? with
  | some (.lst ds) => some (.list ds)
  | some (.lM fs) => (fvsAt g fs).map .list
  | _ => none
def loanR (g : G) : R → Option PyData
  | .d x => some x
  | .o j => lstM g j
  | .l js => (lstsAt g js).map .list
  | .t false fs => (fvsAt g fs).map .list
  | _ => none
def loans (g : G) : List R → Option (List PyData)
  | [] => some []
  | r :: rs => match loanR g r, loans g rs with
    | some x, some xs => some (x :: xs)
    | _, _ => none
def isSc : PyData → Bool
  | .none => true
  | .bool _ => true
  | .int _ => true
  | .str _ => true
  | _ => false
theorem dq_sc {B B' : Hp} {v : V} {x : PyData} (h : isSc x = true) (d : Dq B v x) : Dq B' v x := by
  cases d with
  | non => exact .non
  | bl b => exact .bl b
  | int i => exact .int i
  | str z => exact .str z
  | lst _ _ => cases h
  | tup _ _ => cases h
section
variable {K : KR} {F : Fm} {g : G} {tm : List (V × R)} {s : L2.St} {H B : Hp} {al : List Addr}
def allB (H B : Hp) (al : List Addr) : Hp := fun a => if al.contains a = true then H a else B a
theorem allB_in {a : Addr} (h : a ∈ al) : allB H B al a = H a := by unfold allB; rw [if_pos (List.contains_iff_mem.mpr h)]
theorem allB_out {a : Addr} (h : a ∉ al) : allB H B al a = B a := by unfold allB; rw [if_neg (fun z => h (List.contains_iff_mem.mp z))]
theorem allB_same (bh : Same B H) : Same B (allB H B al) := fun a o e => by
  by_cases h : a ∈ al
  · rw [allB_in h]; exact bh _ _ e
  · rw [allB_out h]; exact e
theorem Stt.loan (S : Stt K F g tm s H B al) : Stt K F ⟨g.sl, g.ce.map fun _ => .dead⟩ tm s H (allB H B al) al := by
  have eB := allB_same (al := al) S.bh
  have dd : ∀ (i : Nat) (ct : Ct), (g.ce.map fun _ => Ct.dead)[i]? = some ct → ct = .dead := fun i ct e => by
    rw [List.getElem?_map] at e
    cases h : g.ce[i]? with
    | none => rw [h] at e; cases e
    | some c => rw [h] at e; cases e; rfl
  refine { rb := S.rb, ro := S.ro, rp := S.rp, ot := S.ot, fb := S.fb.trans eB, bh := ?_, fo := ?_, pre := S.pre, len := (by show al.length = (g.ce.map _).length; rw [List.length_map]; exact S.len), nd := S.nd, lv := S.lv, nb := ?_, ce := ?_, sl := ?_, tm := ?_, sln := S.sln, tx := S.tx }
  · intro a o e
    by_cases h : a ∈ al
    · rw [allB_in h] at e; exact e
    · rw [allB_out h] at e; exact S.bh _ _ e
  · intro a o e
    obtain ⟨q1, q2, q3⟩ := S.fo a o e
    exact ⟨q1, by rw [allB_out q3]; exact q2, q3⟩
  · intro i a ct e1 e2 e3
    exact absurd (dd i ct e2) e3
  · intro i a ct e1 e2
    rw [dd i ct e2]
    rw [List.getElem?_map] at e2
    cases hc : g.ce[i]? with
    | none => rw [hc] at e2; cases e2
    | some c => exact ct_box (S.ce i a c e1 hc)
  · intro i r e
    obtain ⟨v, q1, q2⟩ := S.sl i r e
    exact ⟨v, q1, rv_mono0 eB q2⟩
  · intro q hq
    exact rv_mono0 eB (S.tm q hq)
theorem Stt.unloan (S : Stt K F g tm s H B al) {H' B' : Hp} {al' : List Addr} {ce' : List Ct} (S' : Stt (kAt K.fr K.rt.cl (allB H B al) (ownN F H (allB H B al) al) []) ⟨allB H B al, ownN F H (allB H B al) al, []⟩ ⟨[], ce'⟩ [] [] H' B' al') : Stt K F g tm s H' B al := by
  have e1 : Same (allB H B al) H' := S'.fb.trans S'.bh
  have eB := allB_same (al := al) S.bh
  have own : ∀ a ∈ al, ∀ o, H a = some o → H' a = some o := fun a ha o e => e1 a o (by rw [allB_in ha]; exact e)
  refine { rb := S.rb, ro := S.ro, rp := S.rp, ot := S.ot, fb := S.fb, bh := eB.trans e1, fo := ?_, pre := S.pre, len := S.len, nd := S.nd, lv := ?_, nb := S.nb, ce := ?_, sl := S.sl, tm := S.tm, sln := S.sln, tx := S.tx }
  · intro a o e
    obtain ⟨q1, q2, q3⟩ := S.fo a o e
    refine ⟨(S'.fo a o (by show ownN F H (allB H B al) al a = some o; rw [ownN_out q3]; exact e)).1, q2, q3⟩
  · intro a ha
    obtain ⟨o, e⟩ := S.lv a ha
    exact ⟨o, own a ha o e⟩
  · intro j a ct e2 e3
    exact ct_mono0 (Same.refl _) (fun o e => own a (List.mem_of_getElem? e2) o e) (S.ce j a ct e2 e3)
theorem dq_own (S : Stt K F g tm s H B al) {j : Nat} {a : Addr} {x : PyData} (ha : al[j]? = some a) (h : lstAt g j = some x) : Dq (allB H B al) (.ref a) x := by
  unfold lstAt at h
  split at h
  · rename_i ds hc
    cases h
    obtain ⟨xs, h1, h2⟩ := S.ce j a _ ha hc
    exact .lst (by rw [allB_in (List.mem_of_getElem? ha)]; exact h1) (dqall_mono (allB_same S.bh) h2)
  · cases h
theorem dq_owns (S : Stt K F g tm s H B al) : ∀ {js : List Nat} {xs : List V} {ds : List PyData}, Paired (fun (x : V) (j : Nat) => ∃ a, al[j]? = some a ∧ x = V.ref a) xs js → lstsAt g js = some ds → DqAll (allB H B al) xs ds
  | [], _, ds, .nil, h => by cases h; exact .nil
  | j :: js, _ :: xs, ds, .cons a b, h => by
    unfold lstsAt at h
    split at h
    · rename_i y ys e1 e2
      cases h
      obtain ⟨q, hq, rfl⟩ := a
      exact .cons (dq_own S hq e1) (dq_owns S b e2)
    · cases h
theorem dq_fvsAt (S : Stt K F g tm s H B al) : ∀ {fs : List Fv} {xs : List V} {ds : List PyData}, Paired (FvOk K B al) xs fs → fvsAt g fs = some ds → DqAll (allB H B al) xs ds
  | [], _, ds, .nil, h => by cases h; exact .nil
  | f :: fs, v :: vs, ds, .cons a b, h => by
    unfold fvsAt at h
    split at h
    · rename_i y ys e1 e2
      cases h
      refine .cons ?_ (dq_fvsAt S b e2)
      cases f with
      | d x => cases e1; exact dq_mono (allB_same S.bh) a
      | o k =>
        obtain ⟨q, hq, rfl⟩ := a
        exact dq_own S hq e1
      | kd _ => cases e1
      | x _ => cases e1
    · cases h
theorem dq_ownM (S : Stt K F g tm s H B al) {j : Nat} {a : Addr} {x : PyData} (ha : al[j]? = some a) (h : lstM g j = some x) : Dq (allB H B al) (.ref a) x := by
  unfold lstM at h
  split at h
  · rename_i ds hc
    cases h
    obtain ⟨xs, h1, h2⟩ := S.ce j a _ ha hc
    exact .lst (by rw [allB_in (List.mem_of_getElem? ha)]; exact h1) (dqall_mono (allB_same S.bh) h2)
  · rename_i fs hc
    obtain ⟨xs, h1, h2⟩ := S.ce j a _ ha hc
    cases e : fvsAt g fs with
    | none => rw [e] at h; cases h
    | some ds =>
      rw [e] at h
      cases h
      exact .lst (by rw [allB_in (List.mem_of_getElem? ha)]; exact h1) (dq_fvsAt S h2 e)
  · cases h
theorem dq_loan (S : Stt K F g tm s H B al) {v : V} {r : R} {x : PyData} (hv : RvOk K B al v r) (h : loanR g r = some x) : Dq (allB H B al) v x := by
  cases r with
  | d y => cases h; exact dq_mono (allB_same S.bh) hv
  | o j =>
    obtain ⟨a, ha, rfl⟩ := hv
    exact dq_ownM S ha h
  | l js =>
    obtain ⟨p, xs, rfl, h1, h2⟩ := hv
    have h : (lstsAt g js).map PyData.list = some x := h
    cases e : lstsAt g js with
    | none => rw [e] at h; cases h
    | some ds =>
      rw [e] at h
      cases h
      exact .lst (allB_same S.bh _ _ h1) (dq_owns S h2 e)
  | f j ds => cases h
  | t tp fs =>
    cases tp with
    | true => cases h
    | false =>
      obtain ⟨p, xs, rfl, h1, h2⟩ := hv
      have h : (fvsAt g fs).map PyData.list = some x := h
      cases e : fvsAt g fs with
      | none => rw [e] at h; cases h
      | some ds =>
        rw [e] at h
        cases h
        exact .lst (allB_same S.bh _ _ h1) (dq_fvsAt S h2 e)
  | u nd ds => cases h
  | s ns => cases h
  | x n => cases h
  | m ct => cases h
theorem dq_loans (S : Stt K F g tm s H B al) : ∀ {rs : List R} {vs : List V} {ds : List PyData} {K' : KR} {al' : List Addr}, Paired (RvOk K B al) vs rs → loans g rs = some ds → Paired (RvOk K' (allB H B al) al') vs (ds.map R.d)
  | [], _, ds, K', al', .nil, h => by cases h; exact .nil
  | r :: rs, v :: vs, ds, K', al', .cons a b, h => by
    unfold loans at h
    split at h
    · rename_i y ys e1 e2
      cases h
      exact .cons (dq_loan S a e1) (dq_loans S b e2)
    · cases h
end
def callL (f : Fn) (rs : List R) (g : G) : Out R := match loans g rs with
  | some ds => match f (ds.map R.d) [] with
    | .ok (.dat x) _ => if isSc x = true then .ok (.d x) g else .no
    | _ => .no
  | none => .no
def fCallL (f : Fn) (fs : FAr) : FE := fun g => (fs g).bind fun rs g1 => callL f rs g1
theorem fCallL_ap (f : Fn) (fs : FAr) (g : G) : fCallL f fs g = (fs g).bind fun rs g1 => callL f rs g1 := id rfl
theorem callL_of {f : Fn} {rs : List R} {ds : List PyData} {x : PyData} {g : G} (h : f (ds.map R.d) [] = .ok (.dat x) []) (hl : loans g rs = some ds) (hs : isSc x = true) : callL f rs g = .ok (.d x) g := by
  unfold callL
  rw [hl]
  simp only [h, hs, if_true]
section
variable {ρ : Root} {X : Cx} {dx : DX} {k : Nat} {f : Addr} {fd : FuncData} {ps : List Str} {x : Str} {p pos : Pos} {a b e : Expr} {es : List Expr} {K : KR} {fn : Fn} {fs : FAr} {f1 f2 : FE}
theorem ref_callL {n : Nat} : ∀ s H Q, lift K (fun g k => rd dx fs g fun rs g1 => rs.length = n ∧ (callL fn rs g1).go dx k) s H Q → tCallS (spF K.fr K.rt.cl n fn) (WE (liftX K dx)) (liftA K (rd dx fs)) s H Q := fun s H Q ⟨F, g, tm, kk, B, al, S, hk, q⟩ =>
  ⟨F, g, tm, _, B, al, S, hk, fun vs H1 rs g1 B1 al1 ⟨hlen, hc⟩ S1 pr => by
    show spF K.fr K.rt.cl n fn vs H1 Q _
    unfold callL at hc
    cases hl : loans g1 rs with
    | none => rw [hl] at hc; exact hc.elim
    | some ds =>
      rw [hl] at hc
      have S2 := S1.loan
      refine ⟨allB H1 B1 al1, ownN F H1 (allB H1 B1 al1) al1, [], [], ds.map R.d, by rw [pr.length]; exact hlen, call_in S2, dq_loans S1 pr hl, ?_, ?_, ?_⟩
      · intro z
        simp only [z] at hc
        exact hc
      · intro v H' qq bx' B' al' ce' ef hb S' hr
        simp only [ef] at hc
        cases qq with
        | dat y =>
          simp only at hc
          by_cases hs : isSc y = true
          · rw [if_pos hs] at hc
            have eb : bx' = [] := List.length_eq_zero_iff.mp hb
            subst eb
            exact q v H' (.d y) g1 B1 al1 hc ((S1.unloan S').push (dq_sc hs hr))
          · rw [if_neg hs] at hc
            exact hc.elim
        | shC ct => exact hc.elim
        | newC ct => exact hc.elim
      · intro n cls d H' bx' B' al' ce' ef hb S' hx
        simp only [ef] at hc
        exact hc.elim⟩
theorem q_callL (tk : Takes X (liftX ⟨X.K, ρ⟩ dx)) (G : FnG X.prog X.w X.K X.mg X.base (L2.CX X.prog X.w) k f fd ps (spF X.K ρ.cl ps.length fn)) (hr : Calm k X.A) (hg : Gl X x) (hm : X.mg x = some (.ref f)) (hk : PySem.W.keepIn X.K (.ref f) = true) (hb : Binds X.K fd ps []) (ha : PFA ρ X dx (e :: es) fs) (hn : nArgs ps.length fs) (hdb : (x == ("__debug__" : Str)) = false := by decide)
    (he : starEach (e :: es) X.env = (false, eval e X.env) :: starEach es X.env := by rfl) (hpl : (backTo pos (starEach es X.env)).any (·.1) = false := by rfl) : PF ρ X dx (.Call (.Name x p) (e :: es) [] pos) (fCallL fn fs) :=
  pe_imp (pe_callG G hr hg hm hk hb (passAt tk) ha hdb he hpl) fun s H Q ⟨F, g, tm, kk, B, al, S, hk, q⟩ => ref_callL s H Q ⟨F, g, tm, kk, B, al, S, (by
    unfold rd fCallL at hk
    show (fs g).go dx _
    cases h1 : fs g with
    | no => rw [h1] at hk; exact hk
    | ex n g => rw [h1] at hk; exact hk
    | ok rs g1 => rw [h1] at hk; exact ⟨hn g rs g1 h1, hk⟩), q⟩
def asOs : List R → Option (List Nat)
  | [] => some []
  | .o j :: r => (asOs r).map (j :: ·)
  | _ => none
def lstLK (g : G) (o : Option (List Nat)) : Out R := match o with
  | some js => if js.length ≤ 1000 then .ok (.l js) g else .no
  | none => .no
def fLstL (fs : FAr) : FE := fun g => (fs g).bind fun rs g1 => lstLK g1 (asOs rs)
theorem fLstL_ap (fs : FAr) (g : G) : fLstL fs g = (fs g).bind fun rs g1 => lstLK g1 (asOs rs) := id rfl
theorem asOs_paired {B : Hp} {al : List Addr} : ∀ {rs : List R} {vs : List V} {js : List Nat}, Paired (RvOk K B al) vs rs → asOs rs = some js → Paired (fun (x : V) (j : Nat) => ∃ a, al[j]? = some a ∧ x = V.ref a) vs js
  | [], _, js, .nil, h => by cases h; exact .nil
  | .o j :: rs, v :: vs, js, .cons a b, h => by
    have h : (asOs rs).map (j :: ·) = some js := h
    cases e : asOs rs with
    | none => rw [e] at h; cases h
    | some ks => rw [e] at h; cases h; exact .cons a (asOs_paired b e)
  | .d _ :: _, _ :: _, _, .cons _ _, h => by cases h
  | .s _ :: _, _ :: _, _, .cons _ _, h => by cases h
  | .x _ :: _, _ :: _, _, .cons _ _, h => by cases h
  | .m _ :: _, _ :: _, _, .cons _ _, h => by cases h
  | .l _ :: _, _ :: _, _, .cons _ _, h => by cases h
  | .f _ _ :: _, _ :: _, _, .cons _ _, h => by cases h
  | .u _ _ :: _, _ :: _, _, .cons _ _, h => by cases h
theorem q_lstL (h : PFA ρ X dx es fs) : PF ρ X dx (.List es pos) (fLstL fs) := by
  refine pe_imp (pe_lst h) fun s H Q h => ?_
  obtain ⟨F, g, tm, k, B, al, S, hd, q⟩ := h
  refine ⟨F, g, tm, _, B, al, S, go_bind.mp hd, fun vs H1 rs g1 B1 al1 hk S1 pr => ?_⟩
  cases hz : asOs rs with
  | none => rw [hz] at hk; exact hk.elim
  | some js =>
    rw [hz] at hk
    have hk : (if js.length ≤ 1000 then (.ok (.l js) g1 : Out R) else .no).go dx k := hk
    by_cases hl : js.length ≤ 1000
    · rw [if_pos hl] at hk
      have pj := asOs_paired pr hz
      refine ⟨by rw [pj.length, sizeLine_eq]; omega, fun p hp => ?_⟩
      exact q _ _ _ g1 _ al1 hk ((S1.grow (o := .lst vs) hp).push ⟨p, vs, rfl, upd_same, pj⟩)
    · rw [if_neg hl] at hk; exact hk.elim
def opIxL : Op2 := fun _ r1 r2 => match r1, r2 with
  | .l js, .d (.int i) => (atI js i).map R.o
  | _, _ => none
theorem opIxL_ap (g : G) (js : List Nat) (i : Int) : opIxL g (.l js) (.d (.int i)) = (atI js i).map R.o := id rfl
def oIxL : D2 := fun r1 r2 g k => ∃ js i j, r1 = .l js ∧ r2 = .d (.int i) ∧ atI js i = some j ∧ k (.o j) g
theorem paired_at {α β : Type} {P : α → β → Prop} : ∀ {xs : List α} {ys : List β} {n : Nat} {y : β}, Paired P xs ys → ys[n]? = some y → ∃ x, xs[n]? = some x ∧ P x y
  | _, _, n, y, .nil, h => by simp at h
  | _, _, 0, y, .cons a b, h => by cases h; exact ⟨_, rfl, a⟩
  | _, _, n + 1, y, .cons a b, h => by
    obtain ⟨x, h1, h2⟩ := paired_at (n := n) b (by simpa using h)
    exact ⟨x, by simpa using h1, h2⟩
theorem ref_ixL {K : KR} : RefOp K (fun x y H Q => rIxL K.fr x y H Q ∨ rIxT K.fr x y H Q) oIxL := by
  rintro F g tm s H B al x y r1 r2 k Q S hx hy ⟨js, i, j, rfl, rfl, e2, hk⟩ q
  have ey := dq_int hy
  subst ey
  obtain ⟨p, xs, rfl, h1, h2⟩ := hx
  have e3 : ∃ v, atI xs i = some v ∧ ∃ a, al[j]? = some a ∧ v = V.ref a := by
    unfold atI at e2 ⊢
    rw [h2.length]
    cases hi : ixN js.length i with
    | none => rw [hi] at e2; cases e2
    | some n => rw [hi] at e2; exact paired_at h2 e2
  obtain ⟨v, hv, hd⟩ := e3
  exact .inl ⟨p, xs, i, v, rfl, rfl, .inl (.inl (S.bh _ _ h1)), hv, q _ H _ g B al hk S hd⟩
theorem says_ixL : Says opIxL oIxL := fun r1 r2 g k r e hk => by
  unfold opIxL at e
  split at e
  · rename_i js i
    cases h : atI js i with
    | none => rw [h] at e; cases e
    | some j => rw [h] at e; cases e; exact ⟨js, i, j, rfl, rfl, h, hk⟩
  · cases e
theorem q_ixL (ha : PF ρ X dx a f1) (hb : PF ρ X dx b f2) (hs : PlainIx b := by intro _ _; rfl) : PF ρ X dx (.Subscript a b pos) (fOp opIxL f1 f2) := pd_mono (pe_imp (pe_ix (IxR.or ix_list ix_tup) ha hb hs) (ref_op ref_ixL)) (rd_op says_ixL)
end
end DL
set_option Elab.async false
set_option linter.all false
set_option maxRecDepth 100000
set_option maxHeartbeats 4000000
set_option autoImplicit false
namespace DL
open PySem PySem.Spec PyProof.Rows L2
def tTupA (n : Nat) (t : FGs) : FG := fun r g => match r with
  | .d (.tuple ds) => if ds.length = n then t (ds.map .d) g else .no
  | .d (.list ds) => if ds.length = n then t (ds.map .d) g else .no
  | _ => .no
@[simp] theorem tTupA_t (n : Nat) (t : FGs) (ds : List PyData) (g : G) : tTupA n t (.d (.tuple ds)) g = if ds.length = n then t (ds.map .d) g else .no := id rfl
@[simp] theorem tTupA_l (n : Nat) (t : FGs) (ds : List PyData) (g : G) : tTupA n t (.d (.list ds)) g = if ds.length = n then t (ds.map .d) g else .no := id rfl
section
variable [Tx]
variable {ρ : Root} {X : Cx} {dx : DX} {es : List Expr} {pos : Pos}
theorem pg_or {tg : Expr} {t u : TG} (h1 : PG X tg t) (h2 : PG X tg u) : PG X tg (fun v σ H Q => t v σ H Q ∨ u v σ H Q) := ⟨fun pins s σ H v w Q I r q => q.elim (h1.run pins s σ H v w Q I r) (h2.run pins s σ H v w Q I r)⟩
theorem qg_tupA {ws : List Nat} {k : Nat} {t : FGs} {n : Nat} (hc : X.calm = true) (h : PFGs ρ X dx ws es t) (hn : (assignEach es X.env).length = n := by rfl) (hst : (assignEach es X.env).findIdx? (·.1) = none := by rfl) : PFG ρ X dx ws (.Tuple es k pos) (tTupA n t) := by
  refine pg_imp (pg_or (pg_tup hc h hn hst) (pg_lst hc h hn hst)) fun v s H Q hh => ?_
  obtain ⟨F, g, tm, r, k, B, al, S, hv, hk, q⟩ := hh
  cases r with
  | d y =>
    cases y with
    | tuple ds =>
      have hk : (if ds.length = n then t (ds.map R.d) g else .no).go dx (fun _ => k) := hk
      by_cases hl : ds.length = n
      · rw [if_pos hl] at hk
        obtain ⟨a, xs, rfl, h1, h2⟩ := dq_tup hv
        exact .inl ⟨a, xs, rfl, S.nt h1, by rw [dqall_len h2]; exact hl, F, g, tm, _, k, B, al, S, dq_paired h2, hk, q⟩
      · rw [if_neg hl] at hk; exact hk.elim
    | list ds =>
      have hk : (if ds.length = n then t (ds.map R.d) g else .no).go dx (fun _ => k) := hk
      by_cases hl : ds.length = n
      · rw [if_pos hl] at hk
        obtain ⟨a, xs, rfl, h1, h2⟩ := dq_list hv
        exact .inr ⟨a, xs, rfl, .inl (.inl (S.bh _ _ h1)), by rw [dqall_len h2]; exact hl, F, g, tm, _, k, B, al, S, dq_paired h2, hk, q⟩
      · rw [if_neg hl] at hk; exact hk.elim
    | _ => exact hk.elim
  | _ => exact hk.elim
end
end DL
set_option Elab.async false
set_option linter.all false
set_option maxRecDepth 100000
set_option maxHeartbeats 4000000
set_option autoImplicit false
namespace DL
open PySem PySem.Spec PyProof.Rows L2 PySem.W
variable [Tx]
section
variable {ρ : Root} {X : Cx} {dx : DX} {e : Expr} {es : List Expr} {pos : Pos}
abbrev BT : Int := 1048576
end
def asTups : List PyData → Option (List (List Int))
  | [] => some []
  | .tuple ds :: r => match asInts ds with
    | some ns => (asTups r).map (ns :: ·)
    | none => none
  | _ => none
theorem asTups_of : ∀ nss : List (List Int), asTups (nss.map tupD) = some nss
  | [] => rfl
  | ns :: r => by
    show (match asInts (ns.map .int) with | some ns => (asTups (r.map tupD)).map (ns :: ·) | none => none) = _
    rw [asInts_map, asTups_of r]
    rfl
def AscT (nss : List (List Int)) : Prop := nss.length < 64 ∧ (∀ n ∈ nss, ∀ m ∈ n, 0 ≤ m ∧ m < BT) ∧ (∀ n ∈ nss, n.length = (nss.headD []).length) ∧ nss.Pairwise (fun a b => TS.code BT a ≤ TS.code BT b)
instance (nss : List (List Int)) : Decidable (AscT nss) := by unfold AscT; infer_instance
def clSortA : Cl := fun g rs => match rs with
  | [r] => match seqOf g r with
    | some (false, ds) => match asTups ds with
      | some nss => if AscT nss then some (.d (.list ds)) else none
      | none => none
    | _ => none
  | _ => none
@[simp] theorem clSortA_ap (g : G) (r : R) {nss : List (List Int)} (hs : seqOf g r = some (false, nss.map tupD)) (h : AscT nss) : clSortA g [r] = some (.d (.list (nss.map tupD))) := by
  show (match seqOf g r with
    | some (false, ds) => (match asTups ds with
      | some nss => if AscT nss then some (.d (.list ds)) else none
      | none => none)
    | _ => none : Option R) = _
  rw [hs]
  show (match asTups (nss.map tupD) with
      | some nss' => if AscT nss' then some (R.d (.list (nss.map tupD))) else none
      | none => none : Option R) = _
  rw [asTups_of]
  exact if_pos h
def opNotB : Op2 := fun _ r1 r2 => match r1, r2 with
  | .d (.bool a), .d (.bool b) => some (.d (.bool (!decide (a = b))))
  | _, _ => none
@[simp] theorem opNotB_b (g : G) (a b : Bool) : opNotB g (.d (.bool a)) (.d (.bool b)) = some (.d (.bool (!decide (a = b)))) := id rfl
end DL
set_option Elab.async false
set_option linter.all false
set_option maxRecDepth 100000
set_option maxHeartbeats 4000000
set_option autoImplicit false
namespace DL
open PySem PySem.Spec PyProof.Rows L2 PySem.W
end DL
set_option Elab.async false
set_option linter.all false
set_option maxRecDepth 100000
set_option maxHeartbeats 4000000
set_option autoImplicit false
namespace DL
open PySem PySem.Spec PyProof.Rows L2
end DL
set_option Elab.async false
set_option linter.all false
set_option maxRecDepth 100000
set_option maxHeartbeats 4000000
set_option autoImplicit false
namespace DL
open PySem PySem.Spec PyProof.Rows L2
end DL
set_option Elab.async false
set_option linter.all false
set_option maxRecDepth 100000
set_option maxHeartbeats 4000000
set_option autoImplicit false
namespace DL
open PySem PySem.Spec PyProof.Rows L2
end DL
set_option Elab.async false
set_option linter.all false
set_option maxRecDepth 100000
set_option maxHeartbeats 4000000
set_option autoImplicit false
namespace DL
open PySem PySem.Spec PyProof.Rows L2
end DL
set_option Elab.async false
set_option linter.all false
set_option maxRecDepth 100000
set_option maxHeartbeats 4000000
set_option autoImplicit false
namespace DL
open PySem PySem.Spec PyProof.Rows L2
end DL
set_option Elab.async false
set_option linter.all false
set_option maxRecDepth 100000
set_option maxHeartbeats 4000000
set_option autoImplicit false
namespace DL
open PySem PySem.Spec PyProof.Rows L2
end DL
set_option Elab.async false
set_option linter.all false
set_option maxRecDepth 100000
set_option maxHeartbeats 4000000
set_option autoImplicit false
namespace DL
open PySem PySem.Spec PyProof.Rows L2
end DL
set_option Elab.async false
set_option linter.all false
set_option maxRecDepth 100000
set_option maxHeartbeats 4000000
set_option autoImplicit false
namespace DL
open PySem PySem.Spec PyProof.Rows L2
end DL
set_option Elab.async false
set_option linter.all false
set_option maxRecDepth 100000
set_option maxHeartbeats 4000000
set_option autoImplicit false
namespace DL
open PySem PySem.Spec PyProof.Rows L2
end DL
set_option Elab.async false
set_option linter.all false
set_option maxRecDepth 100000
set_option maxHeartbeats 4000000
set_option autoImplicit false
namespace DL
open PySem PySem.Spec PyProof.Rows L2
def maxL : List Int → Int
  | [] => 0
  | [a] => a
  | a :: l => if maxL l < a then a else maxL l
theorem maxL_spec : ∀ {l : List Int}, l ≠ [] → maxL l ∈ l ∧ ∀ y ∈ l, y ≤ maxL l
  | [], h => absurd rfl h
  | [a], _ => by
    refine ⟨by simp [maxL], fun y hy => ?_⟩
    have : y = a := by simpa using hy
    subst this
    simp [maxL]
  | a :: b :: l, _ => by
    obtain ⟨h1, h2⟩ := maxL_spec (l := b :: l) (by simp)
    show (if maxL (b :: l) < a then a else maxL (b :: l)) ∈ a :: b :: l ∧ ∀ y ∈ a :: b :: l, y ≤ (if maxL (b :: l) < a then a else maxL (b :: l))
    split
    · rename_i h
      refine ⟨List.mem_cons_self, fun y hy => ?_⟩
      rcases List.mem_cons.mp hy with rfl | hy
      · exact Int.le_refl _
      · have := h2 y hy
        omega
    · refine ⟨List.mem_cons_of_mem _ h1, fun y hy => ?_⟩
      rcases List.mem_cons.mp hy with rfl | hy
      · omega
      · exact h2 y hy
theorem maxL_eq {l : List Int} {m : Int} (hm : m ∈ l) (h : ∀ y ∈ l, y ≤ m) : maxL l = m := by
  obtain ⟨h1, h2⟩ := maxL_spec (List.ne_nil_of_mem hm)
  have := h _ h1
  have := h2 _ hm
  omega
variable [Tx]
def minL : List Int → Int
  | [] => 0
  | [a] => a
  | a :: l => if a < minL l then a else minL l
theorem minL_spec : ∀ {l : List Int}, l ≠ [] → minL l ∈ l ∧ ∀ y ∈ l, minL l ≤ y
  | [], h => absurd rfl h
  | [a], _ => by
    refine ⟨by simp [minL], fun y hy => ?_⟩
    have : y = a := by simpa using hy
    subst this
    simp [minL]
  | a :: b :: l, _ => by
    obtain ⟨h1, h2⟩ := minL_spec (l := b :: l) (by simp)
    show (if a < minL (b :: l) then a else minL (b :: l)) ∈ a :: b :: l ∧ ∀ y ∈ a :: b :: l, (if a < minL (b :: l) then a else minL (b :: l)) ≤ y
    split
    · rename_i h
      refine ⟨List.mem_cons_self, fun y hy => ?_⟩
      rcases List.mem_cons.mp hy with rfl | hy
      · exact Int.le_refl _
      · have := h2 y hy
        omega
    · refine ⟨List.mem_cons_of_mem _ h1, fun y hy => ?_⟩
      rcases List.mem_cons.mp hy with rfl | hy
      · omega
      · exact h2 y hy
theorem minL_eq {l : List Int} {m : Int} (hm : m ∈ l) (h : ∀ y ∈ l, m ≤ y) : minL l = m := by
  obtain ⟨h1, h2⟩ := minL_spec (List.ne_nil_of_mem hm)
  have := h _ h1
  have := h2 _ hm
  omega
def clMaxL : Cl := fun g rs => match rs with
  | [r] => match seqOf g r with
    | some (false, ds) => match asInts ds with
      | some ns => if 0 < ns.length then some (.d (.int (maxL ns))) else none
      | none => none
    | _ => none
  | _ => none
def clMinL : Cl := fun g rs => match rs with
  | [r] => match seqOf g r with
    | some (false, ds) => match asInts ds with
      | some ns => if 0 < ns.length then some (.d (.int (minL ns))) else none
      | none => none
    | _ => none
  | _ => none
theorem clMaxL_of {g : G} {ns : List Int} (h : 0 < ns.length) : clMaxL g [.d (.list (ns.map .int))] = some (.d (.int (maxL ns))) := by
  show (match asInts (ns.map .int) with
      | some ns => if 0 < ns.length then some (R.d (.int (maxL ns))) else none
      | none => none) = _
  rw [asInts_map]
  simp only [if_pos h]
theorem clMinL_of {g : G} {ns : List Int} (h : 0 < ns.length) : clMinL g [.d (.list (ns.map .int))] = some (.d (.int (minL ns))) := by
  show (match asInts (ns.map .int) with
      | some ns => if 0 < ns.length then some (R.d (.int (minL ns))) else none
      | none => none) = _
  rw [asInts_map]
  simp only [if_pos h]
def cMaxL (mx : Bool) : DCl := fun rs g k => ∃ r ns, rs = [r] ∧ seqOf g r = some (false, ns.map .int) ∧ 0 < ns.length ∧ k (.d (.int (if mx then maxL ns else minL ns))) g
theorem maxL_says : SaysC clMaxL (cMaxL true) := fun rs g k r e hk => by
  unfold clMaxL at e
  split at e
  · split at e
    · rename_i ds hs
      split at e
      · rename_i ns hn
        split at e
        · rename_i h0
          cases e
          have := asInts_eq hn
          subst this
          exact ⟨_, ns, rfl, hs, h0, hk⟩
        · cases e
      · cases e
    · cases e
  · cases e
theorem minL_says : SaysC clMinL (cMaxL false) := fun rs g k r e hk => by
  unfold clMinL at e
  split at e
  · split at e
    · rename_i ds hs
      split at e
      · rename_i ns hn
        split at e
        · rename_i h0
          cases e
          have := asInts_eq hn
          subst this
          exact ⟨_, ns, rfl, hs, h0, hk⟩
        · cases e
      · cases e
    · cases e
  · cases e
section
variable {ρ : Root} {X : Cx} {dx : DX} {e : Expr} {es : List Expr} {pos : Pos} {fs : FAr}
theorem q_maxL {p : Pos} (hc : X.calm = true) (hg : Gl X "max") (hm : X.mg "max" = none) (ha : PFA ρ X dx (e :: es) fs) (he : starEach (e :: es) X.env = (false, eval e X.env) :: starEach es X.env := by rfl) (hpl : (backTo pos (starEach es X.env)).any (·.1) = false := by rfl) : PF ρ X dx (.Call (.Name "max" p) (e :: es) [] pos) (fCl clMaxL fs) := by
  refine pd_mono (pd_callB (dr := cMaxL true) (cr_max hc) ?_ hg hm (by decide +kernel) ha (he := he) (hpl := hpl)) (rd_cl maxL_says)
  rintro F g tm s H B al vs rs k Q S pr ⟨r, ns, rfl, hs, h0, hk⟩ q
  obtain ⟨v, rfl, hv⟩ := pair1 pr
  obtain ⟨a, xs, rfl, h1, h2⟩ := S.seq hv hs
  cases dqall_ints h2
  refine ⟨a, ns, rfl, h1, h0, fun m hm hmx => ?_⟩
  have hk : k (.d (.int (maxL ns))) g := hk
  rw [maxL_eq hm hmx] at hk
  exact q _ _ _ g B al hk S (.int _)
theorem q_minL {p : Pos} (hc : X.calm = true) (hg : Gl X "min") (hm : X.mg "min" = none) (ha : PFA ρ X dx (e :: es) fs) (he : starEach (e :: es) X.env = (false, eval e X.env) :: starEach es X.env := by rfl) (hpl : (backTo pos (starEach es X.env)).any (·.1) = false := by rfl) : PF ρ X dx (.Call (.Name "min" p) (e :: es) [] pos) (fCl clMinL fs) := by
  refine pd_mono (pd_callB (dr := cMaxL false) (cr_min hc) ?_ hg hm (by decide +kernel) ha (he := he) (hpl := hpl)) (rd_cl minL_says)
  rintro F g tm s H B al vs rs k Q S pr ⟨r, ns, rfl, hs, h0, hk⟩ q
  obtain ⟨v, rfl, hv⟩ := pair1 pr
  obtain ⟨a, xs, rfl, h1, h2⟩ := S.seq hv hs
  cases dqall_ints h2
  refine ⟨a, ns, rfl, h1, h0, fun m hm hmx => ?_⟩
  have hk : k (.d (.int (minL ns))) g := hk
  rw [minL_eq hm hmx] at hk
  exact q _ _ _ g B al hk S (.int _)
end
end DL
set_option Elab.async false
set_option linter.all false
set_option maxRecDepth 100000
set_option maxHeartbeats 4000000
set_option autoImplicit false
namespace DL
open PySem PySem.Spec PyProof.Rows L2
end DL
set_option Elab.async false
set_option linter.all false
set_option maxRecDepth 100000
set_option maxHeartbeats 4000000
set_option autoImplicit false
namespace DL
open PySem PySem.Spec PyProof.Rows L2
end DL
set_option Elab.async false
set_option linter.all false
set_option maxRecDepth 100000
set_option maxHeartbeats 4000000
set_option autoImplicit false
namespace DL
open PySem PySem.Spec PyProof.Rows L2
end DL
set_option Elab.async false
set_option linter.all false
set_option maxRecDepth 100000
set_option maxHeartbeats 4000000
set_option autoImplicit false
namespace DL
open PySem PySem.Spec PyProof.Rows L2 PySem.W
end DL
set_option Elab.async false
set_option linter.all false
set_option maxRecDepth 100000
set_option maxHeartbeats 4000000
set_option autoImplicit false
namespace DL
open PySem PySem.Spec PyProof.Rows L2
end DL
set_option Elab.async false
set_option linter.all false
set_option maxRecDepth 100000
set_option maxHeartbeats 4000000
set_option autoImplicit false
namespace DL
open PySem PySem.Spec PyProof.Rows L2
end DL
set_option Elab.async false
set_option linter.all false
set_option maxRecDepth 100000
set_option maxHeartbeats 4000000
set_option autoImplicit false
namespace DL
open PySem PySem.Spec PyProof.Rows L2
end DL
set_option Elab.async false
set_option linter.all false
set_option maxRecDepth 100000
set_option maxHeartbeats 4000000
set_option autoImplicit false
namespace DL
open PySem PySem.Spec PyProof.Rows L2
end DL
set_option Elab.async false
set_option linter.all false
set_option maxRecDepth 100000
set_option maxHeartbeats 4000000
set_option autoImplicit false
namespace DL
open PySem PySem.Spec PyProof.Rows L2
end DL
set_option Elab.async false
set_option linter.all false
set_option maxRecDepth 100000
set_option maxHeartbeats 4000000
set_option autoImplicit false
namespace DL
open PySem PySem.Spec PyProof.Rows L2 PySem.W
end DL
set_option Elab.async false
set_option linter.all false
set_option maxRecDepth 100000
set_option maxHeartbeats 4000000
set_option autoImplicit false
namespace DL
open PySem PySem.Spec PyProof.Rows L2 PySem.W
end DL
set_option Elab.async false
set_option linter.all false
set_option maxRecDepth 100000
set_option maxHeartbeats 4000000
set_option autoImplicit false
namespace DL
open PySem PySem.Spec PyProof.Rows L2 PySem.W
end DL
set_option Elab.async false
set_option linter.all false
set_option maxRecDepth 100000
set_option maxHeartbeats 4000000
set_option autoImplicit false
namespace DL
open PySem PySem.Spec PyProof.Rows L2 PySem.W
variable [Tx]
def valN (us : List (NestedKey × Addr × V)) (k : NestedKey) : Option V := (us.find? fun x => decide (x.1 = k)).map (·.2.2)
def putN (us : List (NestedKey × Addr × V)) (k : NestedKey) (b : Addr) (y : V) : List (NestedKey × Addr × V) :=
  if (us.find? fun x => decide (x.1 = k)).isSome then us.map (fun x => if x.1 = k then (x.1, x.2.1, y) else x) else us ++ [(k, b, y)]
theorem NV.find {us : List (NestedKey × Addr × V)} {zs : List (NestedKey × Addr × Value)} (r : NV us zs) (k : NestedKey) : (us.find? fun x => decide (x.1 = k)).isSome = (atKey zs k).isSome := by
  unfold atKey
  rw [Option.isSome_map]
  induction r with
  | nil => rfl
  | @cons p q ps qs h t ih =>
    by_cases e : p.1 = k
    · rw [List.find?_cons_of_pos (by simp [e]), List.find?_cons_of_pos (by simp [← h.1, e])]; rfl
    · rw [List.find?_cons_of_neg (by simp [e]), List.find?_cons_of_neg (by simp [← h.1, e])]
      exact ih
theorem NV.val {us : List (NestedKey × Addr × V)} {zs : List (NestedKey × Addr × Value)} (r : NV us zs) (k : NestedKey) : RelO (valN us k) ((atKey zs k).map (·.2)) := by
  unfold valN atKey
  induction r with
  | nil => exact True.intro
  | @cons p q ps qs h t ih =>
    by_cases e : p.1 = k
    · rw [List.find?_cons_of_pos (by simp [e]), List.find?_cons_of_pos (by simp [← h.1, e])]; exact h.2.2
    · rw [List.find?_cons_of_neg (by simp [e]), List.find?_cons_of_neg (by simp [← h.1, e])]
      exact ih
theorem NV.repl {us : List (NestedKey × Addr × V)} {zs : List (NestedKey × Addr × Value)} (r : NV us zs) (k : NestedKey) {y : V} {u : Value} (ry : RelV y u) : NV (us.map fun x => if x.1 = k then (x.1, x.2.1, y) else x) (zs.map (putAt k u)) := by
  induction r with
  | nil => exact .nil
  | @cons p q ps qs h t ih =>
    rw [List.map_cons, List.map_cons]
    refine .cons ?_ ih
    unfold putAt
    by_cases e : p.1 = k
    · rw [if_pos e, if_pos (h.1.symm.trans e)]; exact ⟨h.1, h.2.1, ry⟩
    · rw [if_neg e, if_neg (fun z => e (h.1.trans z))]; exact h
theorem NV.put {us : List (NestedKey × Addr × V)} {zs : List (NestedKey × Addr × Value)} (r : NV us zs) (k : NestedKey) (b : Addr) {y : V} {u : Value} (ry : RelV y u) : NV (putN us k b y) (storedH zs k b u) := by
  unfold putN storedH
  rw [r.find k]
  by_cases q : (atKey zs k).isSome = true
  · rw [if_pos q, if_pos q]; exact r.repl k ry
  · rw [if_neg q, if_neg q]; exact Paired.snoc r ⟨rfl, rfl, ry⟩
end DL
set_option Elab.async false
set_option linter.all false
set_option maxRecDepth 100000
set_option maxHeartbeats 4000000
set_option autoImplicit false
namespace DL
open PySem PySem.Spec PyProof.Rows L2 PySem.W
variable [Tx]
def valNP (kvs : List (NestedKey × PyData)) (k : NestedKey) : Option PyData := (kvs.find? fun x => decide (x.1 = k)).map (·.2)
def putNP (kvs : List (NestedKey × PyData)) (k : NestedKey) (x : PyData) : List (NestedKey × PyData) :=
  if (kvs.find? fun z => decide (z.1 = k)).isSome then kvs.map (fun z => if z.1 = k then (z.1, x) else z) else kvs ++ [(k, x)]
theorem NOk.find {B : Hp} {us : List (NestedKey × Addr × V)} {kvs : List (NestedKey × PyData)} (r : NOk B us kvs) (k : NestedKey) : (us.find? fun x => decide (x.1 = k)).isSome = (kvs.find? fun x => decide (x.1 = k)).isSome := by
  induction r with
  | nil => rfl
  | @cons p q ps qs h t ih =>
    by_cases e : p.1 = k
    · rw [List.find?_cons_of_pos (by simp [e]), List.find?_cons_of_pos (by simp [← h.1, e])]; rfl
    · rw [List.find?_cons_of_neg (by simp [e]), List.find?_cons_of_neg (by simp [← h.1, e])]
      exact ih
theorem NOk.val {B : Hp} {us : List (NestedKey × Addr × V)} {kvs : List (NestedKey × PyData)} (r : NOk B us kvs) (k : NestedKey) : (∃ v x, valN us k = some v ∧ valNP kvs k = some x ∧ Dq B v x) ∨ (valN us k = none ∧ valNP kvs k = none) := by
  unfold valN valNP
  induction r with
  | nil => exact .inr ⟨rfl, rfl⟩
  | @cons p q ps qs h t ih =>
    by_cases e : p.1 = k
    · rw [List.find?_cons_of_pos (by simp [e]), List.find?_cons_of_pos (by simp [← h.1, e])]
      exact .inl ⟨_, _, rfl, rfl, h.2.2⟩
    · rw [List.find?_cons_of_neg (by simp [e]), List.find?_cons_of_neg (by simp [← h.1, e])]
      exact ih
theorem NOk.repl {B : Hp} {us : List (NestedKey × Addr × V)} {kvs : List (NestedKey × PyData)} (r : NOk B us kvs) (k : NestedKey) {y : V} {x : PyData} (ry : Dq B y x) : NOk B (us.map fun z => if z.1 = k then (z.1, z.2.1, y) else z) (kvs.map fun z => if z.1 = k then (z.1, x) else z) := by
  induction r with
  | nil => exact .nil
  | @cons p q ps qs h t ih =>
    rw [List.map_cons, List.map_cons]
    refine .cons ?_ ih
    by_cases e : p.1 = k
    · rw [if_pos e, if_pos (h.1.symm.trans e)]; exact ⟨h.1, h.2.1, ry⟩
    · rw [if_neg e, if_neg (fun z => e (h.1.trans z))]; exact h
theorem NOk.put {B : Hp} {us : List (NestedKey × Addr × V)} {kvs : List (NestedKey × PyData)} (r : NOk B us kvs) {k : NestedKey} {b : Addr} {y : V} {x : PyData} (hb : Dq B (.ref b) k.data) (ry : Dq B y x) : NOk B (putN us k b y) (putNP kvs k x) := by
  unfold putN putNP
  rw [r.find k]
  by_cases q : (kvs.find? fun z => decide (z.1 = k)).isSome = true
  · rw [if_pos q, if_pos q]; exact r.repl k ry
  · rw [if_neg q, if_neg q]; exact Paired.snoc r ⟨rfl, hb, ry⟩
theorem NOk.mono {B B' : Hp} {us : List (NestedKey × Addr × V)} {kvs : List (NestedKey × PyData)} (e : Same B B') (r : NOk B us kvs) : NOk B' us kvs := paired_imp (fun _ _ z => ⟨z.1, dq_mono e z.2.1, dq_mono e z.2.2⟩) r
end DL
set_option Elab.async false
set_option linter.all false
set_option maxRecDepth 100000
set_option maxHeartbeats 4000000
set_option autoImplicit false
namespace DL
open PySem PySem.Spec PyProof.Rows L2 PySem.W
end DL
set_option Elab.async false
set_option linter.all false
set_option maxRecDepth 100000
set_option maxHeartbeats 4000000
set_option autoImplicit false
namespace DL
open PySem PySem.Spec PyProof.Rows L2 PySem.W
end DL
set_option Elab.async false
set_option linter.all false
set_option maxRecDepth 100000
set_option maxHeartbeats 4000000
set_option autoImplicit false
namespace DL
open PySem PySem.Spec PyProof.Rows L2 PySem.W L2.DX
end DL
set_option Elab.async false
set_option linter.all false
set_option maxRecDepth 100000
set_option maxHeartbeats 4000000
set_option autoImplicit false
namespace DL
open PySem PySem.Spec PyProof.Rows L2 PySem.W
end DL
set_option Elab.async false
set_option linter.all false
set_option maxRecDepth 100000
set_option maxHeartbeats 4000000
set_option autoImplicit false
namespace DL
open PySem PySem.Spec PyProof.Rows L2 PySem.W
end DL
set_option Elab.async false
set_option linter.all false
set_option maxRecDepth 100000
set_option maxHeartbeats 4000000
set_option autoImplicit false
namespace DL
open PySem PySem.Spec PyProof.Rows L2 PySem.W
end DL
set_option Elab.async false
set_option linter.all false
set_option maxRecDepth 100000
set_option maxHeartbeats 4000000
set_option autoImplicit false
namespace DL
open PySem PySem.Spec PyProof.Rows L2 PySem.W
end DL
set_option Elab.async false
set_option linter.all false
set_option maxRecDepth 100000
set_option maxHeartbeats 4000000
set_option autoImplicit false
namespace DL
open PySem PySem.Spec PyProof.Rows L2 PySem.W
end DL
set_option Elab.async false
set_option linter.all false
set_option maxRecDepth 100000
set_option maxHeartbeats 4000000
set_option autoImplicit false
namespace DL
open PySem PySem.Spec PyProof.Rows L2 PySem.W
end DL
set_option Elab.async false
set_option linter.all false
set_option maxRecDepth 100000
set_option maxHeartbeats 4000000
set_option autoImplicit false
namespace DL
open PySem PySem.Spec PyProof.Rows L2 PySem.W
end DL
set_option Elab.async false
set_option linter.all false
set_option maxRecDepth 100000
set_option maxHeartbeats 4000000
set_option autoImplicit false
namespace DL
open PySem PySem.Spec PyProof.Rows L2
variable [Tx]
structure ClsOk (K : PySem.W.Frag) (C : Str) (fs ms : List Str) : Prop where
  cls : Cls K (He.ga K C)
  na : ∀ f ∈ fs, NoAttr K (He.ga K C) f
  me : ∀ m ∈ ms, Meth K (He.ga K C) m (He.fAd K (C, some m))
  makes : PySem.W.makesIn K (He.ga K C) = true
  kp : PySem.W.keepIn K (.ref (He.ga K C)) = true
theorem ClsOk.make {C : Str} {fs ms : List Str} {K : PySem.W.Frag} (c : ClsOk K C fs ms) (h : ("__init__" : Str) ∈ ms) : Mk K (He.ga K C) (He.fAd K (C, some "__init__")) := ⟨c.makes, (c.me _ h).at_, (c.me _ h).fn, c.kp⟩
end DL
set_option Elab.async false
set_option linter.all false
set_option maxRecDepth 100000
set_option maxHeartbeats 4000000
set_option autoImplicit false
namespace DL
open PySem PySem.Spec PyProof.Rows L2 PySem.W
end DL
set_option Elab.async false
set_option linter.all false
set_option maxRecDepth 100000
set_option maxHeartbeats 4000000
set_option autoImplicit false
namespace DL
open PySem PySem.Spec PyProof.Rows L2 PySem.W
end DL
set_option Elab.async false
set_option linter.all false
set_option maxRecDepth 100000
set_option maxHeartbeats 4000000
set_option autoImplicit false
namespace DL
open PySem PySem.Spec PyProof.Rows L2 PySem.W
variable [Tx]
structure FunX (K : PySem.W.Frag) (x qual : Str) (st : Stmt) (f : Addr) (fd : FuncData) : Prop where
  ex : ∃ (oc : Value) (od : Option Addr) (dV kV doc pm : Value) (an : Option Addr) (cdv ct : Value) (osl : Array (Option Value)),
    fd = PySem.W.fnOf x qual (defArgs st) (defBody st) (defScope st) dV kV doc pm an cdv ct ∧ K.lookup f = some ⟨oc, od, .func fd, osl⟩ ∧ PySem.W.codeIn K cdv qual = true
theorem FunX.goes {CX : CXT} {P : Program} {w : World} {K : PySem.W.Frag} {mg : Str → Option Value} {base : Heap} {k : Nat} {x qual : Str} {st : Stmt} {f : Addr} {fd : FuncData} {N ps : List Str} {sp : Sp} (F : FunX K x qual st f fd) (S : FnScope N ps (defScope st))
    (count : ∀ vs H Q E, sp vs H Q E → vs.length = ps.length)
    (inside : ∀ (cdv : Value) (A : Around) (fr : List Env) (s : Shared) (H : Hp) (vs : List V) (Q : VK) (E : XK), Calm k (A.deeper (envOfC qual (defScope st) s.heap.objs.size f cdv)) → sp vs H Q E →
      ∃ t, PSs (cxOf CX P w K mg base N qual (defScope st) f cdv A fr s H E) (defBody st) t ∧ t { nx := fun _ H' => Q .non H', rt := Q } (start N vs) H) : FnG P w K mg base CX (k + 1) f fd ps sp := by
  obtain ⟨oc, od, dV, kV, doc, pm, an, cdv, ct, osl, rfl, here, code⟩ := F.ex
  refine ⟨count, fun A fr s H as us vs Q E c env0 bnd rel want => ?_⟩
  have same : ∀ b o, base.get? b = some o → s.heap.get? b = some o := fun b o q => (env0.bs b o q).1
  have inK : K.In s.heap := env0.mod.kin.keeps same
  have noLim : s.heap.NoLimit := env0.mod.nolimit.keeps same
  refine codeAny_call_function c.room.depth (inK _ _ here) rfl S.co S.gen rfl (PySem.W.codeRec_of inK code) (bnd _ _ _ _ ?_)
  refine wpAny_newFunctionEnv_cells S.kind (fun ⟨n, v⟩ hy => (S.par n (List.of_mem_zip hy).1).elim .inl fun q => .inr ⟨q, PySem.W.cellsFrom_some _ _ _ (.inl q)⟩) fun env he s1 made => ?_
  subst he
  refine ⟨noLim.keeps made.toInCall.keep, codeAny_func ?_⟩
  obtain ⟨t, walk, ends⟩ := inside cdv A fr s H vs Q E (c.deeper _) want
  have I0 := inv_start (CX := CX) (E := E) S c.room.hd env0 (count _ _ _ _ want) rel made
  refine wpAny_mono (walk.run [] s1 (start N vs) H _ I0 ends) (fun fl s' q => ?_) fun e s' q => q
  cases fl with
  | ret u =>
    obtain ⟨v, σ', H', J, rv, hq⟩ := q
    exact ⟨v, H', J.os, J.bare, J.base, J.hok, rv, hq⟩
  | next =>
    obtain ⟨σ', H', J, hq⟩ := q
    exact ⟨.non, H', J.os, J.bare, J.base, J.hok, rfl, hq⟩
  | brk => exact q.elim fun _ ⟨_, _, z⟩ => (show False from z).elim
  | cont => exact q.elim fun _ ⟨_, _, z⟩ => (show False from z).elim
end DL
set_option Elab.async false
set_option linter.all false
set_option maxRecDepth 100000
set_option maxHeartbeats 4000000
set_option autoImplicit false
namespace DL
open PySem PySem.Spec PyProof.Rows L2 PySem.W
end DL
set_option Elab.async false
set_option linter.all false
set_option maxRecDepth 100000
set_option maxHeartbeats 4000000
set_option autoImplicit false
namespace DL
open PySem PySem.Spec PyProof.Rows L2 PySem.W HandSHeadRun
end DL
set_option Elab.async false
set_option linter.all false
set_option maxRecDepth 100000
set_option maxHeartbeats 4000000
set_option autoImplicit false
namespace DL
open PySem PySem.Spec PyProof.Rows L2 PySem.W
end DL
set_option Elab.async false
set_option linter.all false
set_option maxRecDepth 100000
set_option maxHeartbeats 4000000
set_option autoImplicit false
namespace DL
open PySem PySem.Spec PyProof.Rows L2 PySem.W
end DL
set_option Elab.async false
set_option linter.all false
set_option maxRecDepth 100000
set_option maxHeartbeats 4000000
set_option autoImplicit false
namespace DL
open PySem PySem.Spec PyProof.Rows L2 PySem.W
end DL
set_option Elab.async false
set_option linter.all false
set_option maxRecDepth 100000
set_option maxHeartbeats 4000000
set_option autoImplicit false
namespace DL
open PySem PySem.Spec PyProof.Rows L2 PySem.W
variable [Tx]
section
variable {X : Cx} {pins : List (Addr × Obj)} {σ : L2.St} {H : Hp} {s : Shared} {a : Addr} {xs : List V}
theorem ndt_here (J : L2.Inv X pins σ H s) (d : NdT X.K H a xs) : ∃ (ob : Obj) (vs : Array Value) (m : Nat), s.heap.get? a = some ob ∧ ob.cls = .type "tuple" ∧ ob.dict = none ∧ ob.data = .seq vs m ∧ Vals xs vs.toList := by
  rcases d with ⟨ob, e, n⟩ | ⟨ob, vs, m, e, c, n, dt, _, r⟩
  · obtain ⟨e1, _, vs, r, ob2, e2, c, m, dt⟩ := J.hok a _ e
    have eo : ob = ob2 := by rw [e1] at e2; exact Option.some.inj e2
    subst eo
    exact ⟨ob, vs.toArray, m, e1, c, n, dt, by simpa using r⟩
  · exact ⟨ob, vs, m, J.kIn a ob e, c, n, dt, r⟩
theorem ints_are : ∀ {ns : List Int} {vs : List Value}, Vals (ns.map V.int) vs → IntsAre vs ns
  | [], _, .nil => .nil
  | n :: ns, _, .cons r t => by
    obtain ⟨tk, rfl⟩ := r
    exact .cons n tk (ints_are t)
/-- what tuple.index asks -/
def rIdxT (K : PySem.W.Frag) : V → List V → Hp → VK → Prop := fun x ys G Q => ∃ (p : Addr) (ns : List Int) (i : Int), x = .ref p ∧ ys = [.int i] ∧ NdT K G p (ns.map V.int) ∧ i ∈ ns ∧ Q (.int (ns.idxOf i : Nat)) G
theorem mt_idxT : MtR X "tuple.index" (rIdxT X.K) := by
  rintro pins s σ G x ys v us Q J rx rys ⟨p, ns, i, rfl, rfl, nd, hi, q⟩
  obtain rfl : v = .ref p := rx
  obtain ⟨ob, vs, m, e, c, n, dt, r⟩ := ndt_here J nd
  obtain ⟨u, rfl, tk, rfl⟩ := vals1 rys
  have hT : s.heap.IsTuple p vs.toList.toArray := ⟨ob, e, c, m, by rw [Array.toArray_toList]; exact dt⟩
  exact PySem.SeqAt.tuple_index_ints hT (ints_are r) hi ⟨.int (ns.idxOf i : Nat), G, J.tok _, ⟨_, rfl⟩, q⟩
end
section
variable {X : Cx} {o e : Expr} {es : List Expr} {to : TE} {t : TA} {apos cpos : Pos}
def tIdxT (K : PySem.W.Frag) (to : TE) (t : TA) : TE := fun σ H Q => to σ H fun x H1 => (∃ (p : Addr) (xs : List V), x = .ref p ∧ NdT K H1 p xs) ∧ t σ H1 fun ys H2 => rIdxT K x ys H2 Q
theorem pe_idxT (ho : PE X o to) (ha : PA X (e :: es) t) (hbase : attributeBase o "index" X.env (eval o X.env) = eval o X.env := by rfl)
    (hfew : ((backTo cpos (starEach (e :: es) X.env)).all (fun x => !x.1) && (backToKw cpos (keywordEach [] X.env)).all (fun x => x.1.isSome)
      && decide ((e :: es).length + ([] : List Keyword).length + (if ([] : List Keyword).isEmpty then 0 else 1) < 30)) = true := by rfl)
    (hline : (apos.endLine == cpos.line) = true := by rfl) (hs : starEach (e :: es) X.env = (false, eval e X.env) :: starEach es X.env := by rfl) (hplain : (backTo cpos (starEach es X.env)).any (·.1) = false := by rfl) :
    PE X (.Call (.Attribute o "index" apos) (e :: es) [] cpos) (tIdxT X.K to t) := by
  constructor
  intro pins s σ H Q J h
  refine wpAny_Call_method_late hbase hfew hline rfl (thn (ho.run pins s σ H _ J h) ?_)
  rintro v s1 ⟨x, H1, J1, r1, ⟨p, xs, rfl, nd⟩, q1⟩
  obtain rfl : v = .ref p := r1
  obtain ⟨ob, vs, m, e1, c, n, dt, r⟩ := ndt_here J1 nd
  refine ⟨"tuple", "tuple.index", PySem.F.plainAttrs_tuple, PySem.F.slot_tuple_index, PySem.F.type_tuple_index, ⟨ob, e1, c⟩, ?_, ?_⟩
  · intro b eb
    cases eb
    exact ⟨ob, e1, n⟩
  · have hA := ha.run cpos pins s1 σ H1 _ J1 q1
    rw [hs] at hA ⊢
    refine Calls.callWith_builtin (by show (false || (backTo cpos (starEach es X.env)).any (·.1)) = false; rw [hplain] <;> rfl) (Calls.evalArgs_plain (thn hA ?_))
    rintro us s2 ⟨ys, H2, J2, r2, q2⟩
    exact mt_idxT pins s2 σ H2 (.ref p) ys (.ref p) us Q J2 rfl r2 q2
end
def oneI : List R → Option Int
  | [.d (.int i)] => some i
  | _ => none
theorem oneI_eq {rs : List R} {i : Int} (h : oneI rs = some i) : rs = [.d (.int i)] := by
  unfold oneI at h
  split at h
  · cases h; rfl
  · cases h
def itsU : R → List PyData
  | .u _ ds => ds
  | .d (.tuple ds) => ds
  | _ => []
def idxTI (g : G) (ds : List PyData) : Option Int → Out R
  | some i => match asInts ds with
    | some ns => if i ∈ ns then .ok (.d (.int (ns.idxOf i : Nat))) g else .no
    | none => .no
  | none => .no
def idxTK (g : G) (r : R) (rs : List R) : Out R := idxTI g (itsU r) (oneI rs)
def isNd : R → Bool
  | .u true _ => true
  | .d (.tuple _) => true
  | _ => false
def fIdxT (f : FE) (fs : FAr) : FE := fun g => (f g).bind fun r g1 => if isNd r = true then (fs g1).bind fun rs g2 => idxTK g2 r rs else .no
theorem fIdxT_ap (f : FE) (fs : FAr) (g : G) : fIdxT f fs g = (f g).bind fun r g1 => if isNd r = true then (fs g1).bind fun rs g2 => idxTK g2 r rs else .no := id rfl
theorem idxTK_ok {ns : List Int} {i : Int} (g : G) (h : i ∈ ns) : idxTK g (.u true (ns.map .int)) [.d (.int i)] = .ok (.d (.int (ns.idxOf i : Nat))) g := by
  show (match asInts (ns.map PyData.int) with
    | some ns => if i ∈ ns then (.ok (.d (.int (ns.idxOf i : Nat))) g : Out R) else .no
    | none => .no) = _
  rw [asInts_map]
  exact if_pos h
theorem idxTK_t {ns : List Int} {i : Int} (g : G) (h : i ∈ ns) : idxTK g (.d (.tuple (ns.map .int))) [.d (.int i)] = .ok (.d (.int (ns.idxOf i : Nat))) g := idxTK_ok g h
/-- what stands there -/
theorem nd_of {K : KR} {F : Fm} {g : G} {tm : List (V × R)} {s : L2.St} {H B : Hp} {al : List Addr} (S : Stt K F g tm s H B al) {v : V} {r : R} (hv : RvOk K B al v r) (h : isNd r = true) : ∃ p xs, v = .ref p ∧ NdT K.fr H p xs ∧ DqAll B xs (itsU r) := by
  cases r with
  | u nd ds =>
    cases nd with
    | false => cases h
    | true =>
      obtain ⟨p, xs, rfl, _, nd, hd⟩ := hv
      exact ⟨p, xs, rfl, (nd rfl).same S.bh, hd⟩
  | d x =>
    cases x with
    | tuple ds =>
      obtain ⟨p, xs, rfl, nd, hd⟩ := dq_tup hv
      exact ⟨p, xs, rfl, S.ndt nd, hd⟩
    | _ => cases h
  | _ => cases h
section
variable {ρ : Root} {X : Cx} {dx : DX} {o e : Expr} {es : List Expr} {f : FE} {fs : FAr} {apos cpos : Pos}
theorem q_idxT (ho : PF ρ X dx o f) (ha : PFA ρ X dx (e :: es) fs) (hbase : attributeBase o "index" X.env (eval o X.env) = eval o X.env := by rfl)
    (hfew : ((backTo cpos (starEach (e :: es) X.env)).all (fun x => !x.1) && (backToKw cpos (keywordEach [] X.env)).all (fun x => x.1.isSome)
      && decide ((e :: es).length + ([] : List Keyword).length + (if ([] : List Keyword).isEmpty then 0 else 1) < 30)) = true := by rfl)
    (hline : (apos.endLine == cpos.line) = true := by rfl) (hs : starEach (e :: es) X.env = (false, eval e X.env) :: starEach es X.env := by rfl) (hplain : (backTo cpos (starEach es X.env)).any (·.1) = false := by rfl) :
    PF ρ X dx (.Call (.Attribute o "index" apos) (e :: es) [] cpos) (fIdxT f fs) :=
  pe_imp (pe_idxT ho ha hbase hfew hline hs hplain) fun s H Q ⟨F, g, tm, k, B, al, S, hk, q⟩ => ⟨F, g, tm, _, B, al, S, go_bind.mp hk, fun v H1 r g1 B1 al1 h1 S1 => by
    have h1 : (if isNd r = true then (fs g1).bind fun rs g2 => idxTK g2 r rs else .no).go dx k := h1
    by_cases hn : isNd r = true
    · rw [if_pos hn] at h1
      obtain ⟨p, xs, ev, nd1, _⟩ := nd_of S1 (S1.top rfl) hn
      have ev : v = .ref p := ev
      subst ev
      refine ⟨⟨p, xs, rfl, nd1⟩, F, g1, (V.ref p, r) :: tm, _, B1, al1, S1, go_bind.mp h1, fun ys H2 rs g2 B2 al2 h2 S2 pr => ?_⟩
      have h2 : (idxTI g2 (itsU r) (oneI rs)).go dx k := h2
      obtain ⟨p2, xs2, ep, nd2, hd2⟩ := nd_of S2 (S2.top rfl) hn
      have ep : V.ref p = .ref p2 := ep
      cases ep
      have hd2 : DqAll B2 xs2 (itsU r) := hd2
      cases ei : oneI rs with
      | none => rw [ei] at h2; exact h2.elim
      | some i =>
        have er := oneI_eq ei
        subst er
        have h2 : (match asInts (itsU r) with
          | some ns => if i ∈ ns then (.ok (.d (.int (ns.idxOf i : Nat))) g2 : Out R) else .no
          | none => .no).go dx k := by rw [ei] at h2; exact h2
        cases en : asInts (itsU r) with
        | none => rw [en] at h2; exact h2.elim
        | some ns =>
          rw [en] at h2
          have h2 : (if i ∈ ns then (.ok (.d (.int (ns.idxOf i : Nat))) g2 : Out R) else .no).go dx k := h2
          by_cases hi : i ∈ ns
          · rw [if_pos hi] at h2
            obtain ⟨w, rfl, hw⟩ := pair1 pr
            cases dq_int hw
            rw [asInts_eq en] at hd2
            have ex := dqall_ints hd2
            subst ex
            exact ⟨p, ns, i, rfl, rfl, nd2, hi, q _ H2 _ g2 B2 al2 h2 ((S2.temps fun t ht => List.mem_cons_of_mem _ ht).push (Dq.int _))⟩
          · rw [if_neg hi] at h2
            exact h2.elim
    · rw [if_neg hn] at h1
      exact h1.elim⟩
end
end DL
set_option Elab.async false
set_option linter.all false
set_option maxRecDepth 100000
set_option maxHeartbeats 4000000
set_option autoImplicit false
namespace DL
open PySem PySem.Spec PyProof.Rows L2 PySem.W
end DL
set_option Elab.async false
set_option linter.all false
set_option maxRecDepth 100000
set_option maxHeartbeats 4000000
set_option autoImplicit false
namespace DL
open PySem PySem.Spec PyProof.Rows L2 PySem.W
end DL
set_option Elab.async false
set_option linter.all false
set_option maxRecDepth 100000
set_option maxHeartbeats 4000000
set_option autoImplicit false
namespace DL
open PySem PySem.Spec PyProof.Rows L2 PySem.W
end DL
set_option Elab.async false
set_option linter.all false
set_option maxRecDepth 100000
set_option maxHeartbeats 4000000
set_option autoImplicit false
namespace DL
open PySem PySem.Spec PyProof.Rows L2
end DL
set_option Elab.async false
set_option linter.all false
set_option maxRecDepth 100000
set_option maxHeartbeats 4000000
set_option autoImplicit false
namespace DL
open PySem PySem.Spec PyProof.Rows L2 PySem.W
end DL
set_option Elab.async false
set_option linter.all false
set_option maxRecDepth 100000
set_option maxHeartbeats 4000000
set_option autoImplicit false
namespace DL
open PySem PySem.Spec PyProof.Rows L2 PySem.W
variable [Tx]
theorem vals_ints : ∀ {ns : List Int} {us : List Value}, Vals (ns.map V.int) us → IntsAre us ns
  | [], us, h => by cases h; exact .nil
  | n :: ns, us, h => by
    cases h with
    | cons h t =>
      obtain ⟨tk, rfl⟩ := h
      exact .cons _ _ (vals_ints t)
end DL
set_option Elab.async false
set_option linter.all false
set_option maxRecDepth 100000
set_option maxHeartbeats 4000000
set_option autoImplicit false
namespace DL
open PySem PySem.Spec PyProof.Rows L2 PySem.W
end DL
set_option Elab.async false
set_option linter.all false
set_option maxRecDepth 100000
set_option maxHeartbeats 4000000
set_option autoImplicit false
namespace DL
open PySem PySem.Spec PyProof.Rows L2 PySem.W
end DL
set_option Elab.async false
set_option linter.all false
set_option maxRecDepth 100000
set_option maxHeartbeats 4000000
set_option autoImplicit false
namespace DL
open PySem PySem.Spec PyProof.Rows L2 PySem.W
end DL
set_option Elab.async false
set_option linter.all false
set_option maxRecDepth 100000
set_option maxHeartbeats 4000000
set_option autoImplicit false
namespace DL
open PySem PySem.Spec PyProof.Rows L2 PySem.W
end DL
set_option Elab.async false
set_option linter.all false
set_option maxRecDepth 100000
set_option maxHeartbeats 4000000
set_option autoImplicit false
namespace DL
open PySem PySem.Spec PyProof.Rows L2 PySem.W
end DL
set_option Elab.async false
set_option linter.all false
set_option maxRecDepth 100000
set_option maxHeartbeats 4000000
set_option autoImplicit false
namespace DL
open PySem PySem.Spec PyProof.Rows L2 PySem.W
end DL
set_option Elab.async false
set_option linter.all false
set_option maxRecDepth 100000
set_option maxHeartbeats 4000000
set_option autoImplicit false
namespace DL
open PySem PySem.Spec PyProof.Rows L2 PySem.W
end DL
set_option Elab.async false
set_option linter.all false
set_option maxRecDepth 100000
set_option maxHeartbeats 4000000
set_option autoImplicit false
namespace DL
open PySem PySem.Spec PyProof.Rows L2 PySem.W
end DL
set_option Elab.async false
set_option linter.all false
set_option maxRecDepth 100000
set_option maxHeartbeats 4000000
set_option autoImplicit false
namespace DL
open PySem PySem.Spec PySem.W PySem.HandSPX
end DL
set_option Elab.async false
set_option linter.all false
set_option maxRecDepth 100000
set_option maxHeartbeats 4000000
set_option autoImplicit false
namespace DL
open PySem PySem.Spec PyProof.Rows L2
end DL
section
open PySem PySem.Spec PyProof.Rows L2 DL
local macro_rules
  | `(tactic| simp! [$ts,*]) => `(tactic| simp only [onI_ap, opMul_ap, opAdd_ap, opEq_ap, opNe_ap, opIsN_ap, opNotN_ap, opIx_ap, opIn_ap, opNotIn_ap, fVar_ap, fC_ap, fOp_ap, fNeg_ap, fAnd_ap, fOr_ap, fNot_ap, fTst_ap, fAndT_ap, fOrT_ap, fNotT_ap, fYes_ap, fIf_ap, fChain_ap, fNil_ap, fCons_ap, fTup_ap, fLst_ap, fLstO_ap, fDict0_ap, fDict0T_ap, fNoP_ap, fPart_ap, fSl_ap, slRd_ap, slRo_ap, slRs_ap, slRu_ap, tupRd_ap, tupRo_ap, tupRs_ap, tupRu_ap, fRev_ap, fCl_ap, clLen_ap, clAbs_ap, clMax_ap, clMin_ap, clInt_ap, clList_ap, clTuple_ap, clAll_ap, clAny_ap, clSum_ap, clSorted_ap, fListO_ap, fIsi_ap, fIsi2_ap, fMt_ap, mtAppend_ap, mtInsert_ap, mtPop_ap, mtExtend_ap, mtIndex_ap, tN_ap, tNil_ap, tCons_ap, tTup_ap, tSub_ap, sNx_ap, sCt_ap, sBk_ap, sSq_ap, sEx_ap, sRt_ap, sRtN_ap, sIte_ap, sSet_ap, sP2_ap, sP3_ap, sAg_ap, sPut_ap, sNo_ap, whSt_ap, sFr_ap, fLc_ap, fLcO_ap, iSeq_ap, iRg1_ap, iRg2_ap, iEn_ap, iZ2_ap, iZ3_ap, clLz2_ap, clLz3_ap, fCall_ap, mkFn_ap, forSt_ap, bind_ok, bind_ex, bind_no, ofO_some, ofM_some, forGo_nil, List.getElem?_cons_zero, List.getElem?_cons_succ, List.set_cons_zero, List.set_cons_succ, List.length_cons, List.length_nil, List.map_cons, List.map_nil, Option.map_some, Option.map_none, List.nil_append, List.cons_append, ite_true, ite_false, if_true, if_false, Bool.and_true, Bool.true_and, Bool.and_self, Bool.false_eq_true, Nat.zero_add, Nat.add_zero, noO, isMade, dictAt, seqOf, datOf, asData, g0, newO, putC, onL, isLst, wipeG, tyOf, ctTy, List.replicate, Nat.sub_self, Nat.reduceSub, Nat.reduceAdd, reduceCtorEq, and_true, true_and, and_self, List.append_nil, List.take_zero, List.take_nil, decide_true, decide_false, Option.some.injEq, Bool.not_true, Bool.not_false, DL.keyOf, tkeyOf, dictC, seqD, List.length_map, shaped_zT, shaped_zL, shaped_pT, shaped_pL, shaped_pD, shaped_int, eqv_zT, eqv_zL, eqv_pT, eqv_pL, eqv_pD, eqv_int, asInts_map, asBools_map, asData_map, any_zD, any_psD, isNR, isN, finF, List.take_succ_cons, shR, resF, decide_eq_true_eq, List.reverse_nil, Nat.reduceLeDiff, Nat.reduceLT, Nat.reduceEqDiff, Int.reduceLT, Int.reduceLE, Int.reduceGT, Int.reduceEq, Int.reduceAdd, Int.reduceSub, Int.reduceMul, Int.reduceNeg, Int.reducePow, Int.reduceToNat, Nat.reducePow, Nat.reduceMul, ↓reduceIte, sTry_ap, tryK_ok, tryK_ex, catchK_true, catchK_false, fIsX_ap, isxK_x, isxK_n, fAttr_ap, attrK_x, sRaise1_ap, raiseK_d, sRaise0_ap, permI_nil, permI_cons, optCons_some, fPerm_ap, sPk_ap, setAll_cons, setAll_nil, opRep_ap, fTupF_ap, tupK_some, fLstL_ap, opIxL_ap, fCallL_ap, tTupA_t, tTupA_l, $ts,*])
  | `(tactic| simp! only [$ts,*]) => `(tactic| simp only [onI_ap, opMul_ap, opAdd_ap, opEq_ap, opNe_ap, opIsN_ap, opNotN_ap, opIx_ap, opIn_ap, opNotIn_ap, fVar_ap, fC_ap, fOp_ap, fNeg_ap, fAnd_ap, fOr_ap, fNot_ap, fTst_ap, fAndT_ap, fOrT_ap, fNotT_ap, fYes_ap, fIf_ap, fChain_ap, fNil_ap, fCons_ap, fTup_ap, fLst_ap, fLstO_ap, fDict0_ap, fDict0T_ap, fNoP_ap, fPart_ap, fSl_ap, slRd_ap, slRo_ap, slRs_ap, slRu_ap, tupRd_ap, tupRo_ap, tupRs_ap, tupRu_ap, fRev_ap, fCl_ap, clLen_ap, clAbs_ap, clMax_ap, clMin_ap, clInt_ap, clList_ap, clTuple_ap, clAll_ap, clAny_ap, clSum_ap, clSorted_ap, fListO_ap, fIsi_ap, fIsi2_ap, fMt_ap, mtAppend_ap, mtInsert_ap, mtPop_ap, mtExtend_ap, mtIndex_ap, tN_ap, tNil_ap, tCons_ap, tTup_ap, tSub_ap, sNx_ap, sCt_ap, sBk_ap, sSq_ap, sEx_ap, sRt_ap, sRtN_ap, sIte_ap, sSet_ap, sP2_ap, sP3_ap, sAg_ap, sPut_ap, sNo_ap, whSt_ap, sFr_ap, fLc_ap, fLcO_ap, iSeq_ap, iRg1_ap, iRg2_ap, iEn_ap, iZ2_ap, iZ3_ap, clLz2_ap, clLz3_ap, fCall_ap, mkFn_ap, forSt_ap, bind_ok, bind_ex, bind_no, ofO_some, ofM_some, forGo_nil, List.getElem?_cons_zero, List.getElem?_cons_succ, List.set_cons_zero, List.set_cons_succ, List.length_cons, List.length_nil, List.map_cons, List.map_nil, Option.map_some, Option.map_none, List.nil_append, List.cons_append, ite_true, ite_false, if_true, if_false, Bool.and_true, Bool.true_and, Bool.and_self, Bool.false_eq_true, Nat.zero_add, Nat.add_zero, noO, isMade, dictAt, seqOf, datOf, asData, g0, newO, putC, onL, isLst, wipeG, tyOf, ctTy, List.replicate, Nat.sub_self, Nat.reduceSub, Nat.reduceAdd, reduceCtorEq, and_true, true_and, and_self, List.append_nil, List.take_zero, List.take_nil, decide_true, decide_false, Option.some.injEq, Bool.not_true, Bool.not_false, DL.keyOf, tkeyOf, dictC, seqD, List.length_map, shaped_zT, shaped_zL, shaped_pT, shaped_pL, shaped_pD, shaped_int, eqv_zT, eqv_zL, eqv_pT, eqv_pL, eqv_pD, eqv_int, asInts_map, asBools_map, asData_map, any_zD, any_psD, isNR, isN, finF, List.take_succ_cons, shR, resF, decide_eq_true_eq, List.reverse_nil, Nat.reduceLeDiff, Nat.reduceLT, Nat.reduceEqDiff, Int.reduceLT, Int.reduceLE, Int.reduceGT, Int.reduceEq, Int.reduceAdd, Int.reduceSub, Int.reduceMul, Int.reduceNeg, Int.reducePow, Int.reduceToNat, Nat.reducePow, Nat.reduceMul, ↓reduceIte, sTry_ap, tryK_ok, tryK_ex, catchK_true, catchK_false, fIsX_ap, isxK_x, isxK_n, fAttr_ap, attrK_x, sRaise1_ap, raiseK_d, sRaise0_ap, permI_nil, permI_cons, optCons_some, fPerm_ap, sPk_ap, setAll_cons, setAll_nil, opRep_ap, fTupF_ap, tupK_some, fLstL_ap, opIxL_ap, fCallL_ap, tTupA_t, tTupA_l, isa_int_int, isa_int_bool, isa_int_list, isa_int_tuple, isa_int_str, isa_bool_int, isa_bool_bool, isa_bool_list, isa_bool_tuple, isa_bool_str, isa_list_int, isa_list_bool, isa_list_list, isa_list_tuple, isa_list_str, isa_tuple_int, isa_tuple_bool, isa_tuple_list, isa_tuple_tuple, isa_tuple_str, isa_str_int, isa_str_bool, isa_str_list, isa_str_tuple, isa_str_str, isa_NoneType_int, isa_NoneType_bool, isa_NoneType_list, isa_NoneType_tuple, isa_NoneType_str, opIsB_b, opIsB_n, opIsB_i, $ts,*])
set_option Elab.async false
set_option linter.all false
set_option maxRecDepth 100000
set_option maxHeartbeats 1000000
set_option autoImplicit false
namespace DL
open PySem PySem.Spec PyProof.Rows L2
noncomputable def ct_are_lower_1 : FG := (tN 4)
noncomputable def cc_are_lower_1 : FT := fYes
noncomputable def cf_are_lower_1 : FE := (fOp opLt (fVar 4) (fVar 3))
noncomputable def b_are_lower : FS :=
  (sRt (fCl clAll (fCons (fLc (iSeq (fSl (fVar 0) (fPart (fVar 1)) (fPart (fVar 2)))) ct_are_lower_1 cc_are_lower_1 cf_are_lower_1 [4]) fNil)))
noncomputable def fn_are_lower : Fn := mkFn 5 b_are_lower
theorem are_lower_ok {ns : List Int} {x : PyData} {a b h : Int} (hx : Sq x (zD ns)) (hl : ns.length < 1000) : fn_are_lower [.d x, .d (.int a), .d (.int b), .d (.int h)] [] = .ok (.dat (.bool ((cut ns (some a) (some b)).all (fun z => decide (z < h))))) [] := by
  have lc : (cut ns (some a) (some b)).length ≤ 100000 := by unfold cut; rw [List.length_take, List.length_drop]; omega
  have step := lcGo_map (emb := PyData.int) (t := ct_are_lower_1) (c := cc_are_lower_1) (f := cf_are_lower_1) (sl := [some (.d x), some (.d (.int a)), some (.d (.int b)), some (.d (.int h)), none]) (ws := [4]) (ce := []) (fun z => .bool (decide (z < h))) (xs := cut ns (some a) (some b)) lc (fun z hz => by
    simp! [lcSt, ct_are_lower_1, cc_are_lower_1, cf_are_lower_1])
  have ec : cut (zD ns) (some a) (some b) = (cut ns (some a) (some b)).map PyData.int := cut_map _ _ _ _
  have e2 : (cut ns (some a) (some b)).map (fun z => PyData.bool (decide (z < h))) = ((cut ns (some a) (some b)).map (fun z => decide (z < h))).map PyData.bool := by rw [List.map_map]; rfl
  rw [e2] at step
  have e3 : ((cut ns (some a) (some b)).map (fun z => decide (z < h))).all id = (cut ns (some a) (some b)).all (fun z => decide (z < h)) := by rw [List.all_map]; rfl
  rcases hx with rfl | rfl <;> simp! [fn_are_lower, b_are_lower, ec, step, e3]
noncomputable def b_sees_at : FS :=
  (sRt (fCall fn_are_lower true (fCons (fVar 0) (fCons (fOp opAdd (fVar 1) (fC (.int 1))) (fCons (fVar 2) (fCons (fCl clMin (fCons (fOp opIx (fVar 0) (fVar 1)) (fCons (fOp opIx (fVar 0) (fVar 2)) fNil))) fNil))))))
noncomputable def fn_sees_at : Fn := mkFn 3 b_sees_at
theorem minI_fold (a b : Int) : (if b < a then b else a) = minI a b := rfl
theorem sees_at_ok {ns : List Int} {x : PyData} {i j : Nat} (hx : Sq x (zD ns)) (hl : ns.length < 1000) (hij : i < j) (hj : j < ns.length) : fn_sees_at [.d x, .d (.int i), .d (.int j)] [] = .ok (.dat (.bool (seesN ns i j))) [] := by
  have a1 := at_getD (ns := ns) (i := i) (by omega)
  have a2 := at_getD hj
  have r := are_lower_ok (a := (i : Int) + 1) (b := (j : Int)) (h := minI (ns.getD i 0) (ns.getD j 0)) hx hl
  rw [cut_betw hij hj] at r
  rcases hx with rfl | rfl <;> simp! [fn_sees_at, b_sees_at, a1, a2, minI_fold, call_of r, seesN]
noncomputable def ct_sights_1 : FG := (tN 3)
noncomputable def cc_sights_1 : FT := (fTst (fCall fn_sees_at false (fCons (fVar 0) (fCons (fVar 2) (fCons (fVar 3) fNil)))))
noncomputable def cf_sights_1 : FE := (fTup (fCons (fVar 2) (fCons (fVar 3) fNil)))
noncomputable def ft_sights_1 : FG := (tN 2)
noncomputable def fu_sights_1 : FS := (sEx (fMt mtExtend (fVar 1) (fCons (fLc (iRg2 (fCons (fOp opAdd (fVar 2) (fC (.int 1))) (fCons (fCl clLen (fCons (fVar 0) fNil)) fNil))) ct_sights_1 cc_sights_1 cf_sights_1 [3]) fNil)))
noncomputable def b_sights : FS :=
  (sSq (sSet (fLstO fNil) (tN 1))
  (sSq (sFr (iRg1 (fCons (fCl clLen (fCons (fVar 0) fNil)) fNil)) ft_sights_1 fu_sights_1)
  (sRt (fVar 1))))
noncomputable def fn_sights : Fn := mkFn 4 b_sights
def castP (p : Nat × Nat) : Int × Int := ((p.1 : Int), (p.2 : Int))
abbrev sgI (ns : List Int) : List (Int × Int) := (sightsM ns).map castP
abbrev exI (ns : List Int) : List (Int × Int) := (exchM ns).map castP
theorem sights_ok {ns : List Int} {x : PyData} (hx : Sq x (zD ns)) (hl : ns.length < 100) : fn_sights [.d x] [] = .ok (.newC (.lst (psD (sgI ns)))) [] := by
  have hr : rOk ((ns.length : Nat) : Int) = true := rOk_of (by omega) (by omega)
  obtain ⟨g', e, a, b, rfl⟩ := forGo_inv (emb := fun (i : Nat) => PyData.int (i : Int)) (t := ft_sights_1) (u := fu_sights_1) (xs := List.range ns.length) (g := ⟨[some (.d x), some (.o 0), none, none], [.lst []]⟩)
    (fun i g => ∃ a b, g = ⟨[some (.d x), some (.o 0), a, b], [.lst (psD (((List.range i).flatMap (sightsAt ns)).map castP))]⟩) ⟨none, none, rfl⟩ (fun k z g hz hI => by
      obtain ⟨a, b, rfl⟩ := hI
      have hi : k < ns.length := by
        have := (List.getElem?_eq_some_iff.mp hz).1
        simpa using this
      have ez : z = k := by
        have := (List.getElem?_eq_some_iff.mp hz).2
        simpa using this.symm
      subst ez
      have hz1 : ((z : Nat) : Int) + 1 = ((z + 1 : Nat) : Int) := by omega
      have ht : (((ns.length : Nat) : Int) - ((z + 1 : Nat) : Int)).toNat = ns.length - (z + 1) := by omega
      have er := rngN (z + 1) (ns.length - (z + 1))
      have hr2 : rOk ((z + 1 : Nat) : Int) = true := rOk_of (by omega) (by omega)
      have step := lcGo_pure (emb := fun (j : Nat) => PyData.int (j : Int)) (t := ct_sights_1) (c := cc_sights_1) (f := cf_sights_1) (sl := [some (.d x), some (.o 0), some (.d (.int z)), b]) (ws := [3]) (ce := [.lst (psD (((List.range z).flatMap (sightsAt ns)).map castP))]) (seesN ns z) (fun j => pD (castP (z, j))) (List.range' (z + 1) (ns.length - (z + 1))) [] (by simp; omega) (fun q hq => by
        have hq := List.mem_range'_1.mp hq
        have r := sees_at_ok (i := z) (j := q) hx (by omega) (by omega) (by omega)
        cases hs : seesN ns z q <;> rw [hs] at r <;> simp! [lcSt, ct_sights_1, cc_sights_1, cf_sights_1, call_of r, castP, pD])
      have e2 : ((List.range' (z + 1) (ns.length - (z + 1))).filter (seesN ns z)).map (fun j => pD (castP (z, j))) = psD ((sightsAt ns z).map castP) := by
        unfold sightsAt psD
        rw [List.map_map, List.map_map]
        rfl
      rw [List.nil_append, e2] at step
      have l1 := sights_len ns z
      have l2 := sightsAt_len ns z
      have hm : z * ns.length ≤ 100 * 100 := Nat.mul_le_mul (by omega) (by omega)
      refine ⟨⟨[some (.d x), some (.o 0), some (.d (.int z)), b], [.lst (psD (((List.range (z + 1)).flatMap (sightsAt ns)).map castP))]⟩, .inl ?_, _, _, rfl⟩
      have e3 : psD (((List.range (z + 1)).flatMap (sightsAt ns)).map castP) = psD (((List.range z).flatMap (sightsAt ns)).map castP) ++ psD ((sightsAt ns z).map castP) := by
        rw [List.range_succ, List.flatMap_append, List.map_append]
        unfold psD
        rw [List.map_append]
        simp
      rw [e3]
      have lim : ((List.range z).flatMap (sightsAt ns)).length + (sightsAt ns z).length ≤ 100000 := by omega
      rcases hx with rfl | rfl <;> simp! [ft_sights_1, fu_sights_1, hz1, ht, hr, hr2, er, step, lim])
  rw [List.length_range, ← rng0] at e
  rcases hx with rfl | rfl <;> simp! [fn_sights, b_sights, hr, Int.toNat_natCast, e, Nat.zero_le] <;> rfl
noncomputable def ct_exchanges_1 : FG := (tTupA 2 (tCons (tN 1) (tCons (tN 2) tNil)))
noncomputable def cc_exchanges_1 : FT := (fTst (fOp opGt (fVar 2) (fOp opAdd (fVar 1) (fC (.int 1)))))
noncomputable def cf_exchanges_1 : FE := (fTup (fCons (fVar 1) (fCons (fVar 2) fNil)))
noncomputable def b_exchanges : FS :=
  (sRt (fLcO (iSeq (fCall fn_sights false (fCons (fVar 0) fNil))) ct_exchanges_1 cc_exchanges_1 cf_exchanges_1 [1, 2]))
noncomputable def fn_exchanges : Fn := mkFn 3 b_exchanges
theorem sightsM_len (ns : List Int) (hl : ns.length < 100) : (sightsM ns).length ≤ 10000 := by
  have h := sights_len ns ns.length
  have hm : ns.length * ns.length ≤ 100 * 100 := Nat.mul_le_mul (by omega) (by omega)
  unfold sightsM
  omega
theorem exchanges_ok {ns : List Int} {x : PyData} (hx : Sq x (zD ns)) (hl : ns.length < 100) : fn_exchanges [.d x] [] = .ok (.newC (.lst (psD (exI ns)))) [] := by
  have r := sights_ok hx hl
  have step := lcGo_pure (emb := pD) (t := ct_exchanges_1) (c := cc_exchanges_1) (f := cf_exchanges_1) (sl := [some (.d x), none, none]) (ws := [1, 2]) (ce := []) (fun q => decide (q.1 + 1 < q.2)) pD (sgI ns) [] (by simp only [List.length_nil, List.length_map]; have := sightsM_len ns hl; omega) (fun q hq => by
    by_cases c : q.1 + 1 < q.2
    · simp! [lcSt, ct_exchanges_1, cc_exchanges_1, cf_exchanges_1, pD, c]
    · simp! [lcSt, ct_exchanges_1, cc_exchanges_1, cf_exchanges_1, pD, c])
  have e2 : (sgI ns).filter (fun q => decide (q.1 + 1 < q.2)) = exI ns := by
    show (List.map castP (sightsM ns)).filter _ = List.map castP (exchM ns)
    unfold exchM
    rw [List.filter_map]
    congr 2
    funext p
    show decide ((p.1 : Int) + 1 < (p.2 : Int)) = decide (p.1 + 1 < p.2)
    congr 1
    exact propext ⟨fun h => by omega, fun h => by omega⟩
  rw [List.nil_append, e2] at step
  simp! [fn_exchanges, b_exchanges, call_lst r, step, Nat.zero_le]
noncomputable def b_look_exchange : FS :=
  (sSq (sSet (fVar 1) (tTupA 2 (tCons (tN 2) (tCons (tN 3) tNil))))
  (sIte (fOrT (fNotT (fTst (fChain opLe opLt (fC (.int 0)) (fVar 2) (fOp opSub (fVar 3) (fC (.int 1)))))) (fOrT (fNotT (fTst (fOp opLt (fVar 3) (fCl clLen (fCons (fVar 0) fNil))))) (fNotT (fTst (fCall fn_sees_at false (fCons (fVar 0) (fCons (fVar 2) (fCons (fVar 3) fNil)))))))) (sRaise1 "Blocked" "pair" (fCons (fTup (fCons (fVar 2) (fCons (fVar 3) fNil))) fNil)) sNx))
noncomputable def fn_look_exchange : Fn := mkFn 4 b_look_exchange
theorem pcast (i j : Nat) : pD (castP (i, j)) = .tuple [.int (i : Int), .int (j : Int)] := rfl
theorem look_exchange_ok {ns : List Int} {x : PyData} {i j : Nat} (hx : Sq x (zD ns)) (hl : ns.length < 1000) (h : (i, j) ∈ exchM ns) : fn_look_exchange [.d x, .d (pD (castP (i, j)))] [] = .ok (.dat .none) [] := by
  obtain ⟨h1, h2, h3⟩ := exch_mem.mp h
  have r := sees_at_ok (i := i) (j := j) hx hl (by omega) h2
  rw [h3] at r
  rw [pcast]
  rcases hx with rfl | rfl <;> simp! [fn_look_exchange, b_look_exchange, call_of r, show (0 : Int) ≤ (i : Int) by omega, show (i : Int) < (j : Int) - 1 by omega, show (j : Int) < ((ns.length : Nat) : Int) by omega]
noncomputable def b_swapped : FS :=
  (sSq (sSet (fVar 1) (tTupA 2 (tCons (tN 2) (tCons (tN 3) tNil))))
  (sRt (fOp opAdd (fOp opAdd (fOp opAdd (fOp opAdd (fCl clTuple (fCons (fSl (fVar 0) fNoP (fPart (fVar 2))) fNil)) (fTup (fCons (fOp opIx (fVar 0) (fVar 3)) fNil))) (fCl clTuple (fCons (fSl (fVar 0) (fPart (fOp opAdd (fVar 2) (fC (.int 1)))) (fPart (fVar 3))) fNil))) (fTup (fCons (fOp opIx (fVar 0) (fVar 2)) fNil))) (fCl clTuple (fCons (fSl (fVar 0) (fPart (fOp opAdd (fVar 3) (fC (.int 1)))) fNoP) fNil)))))
noncomputable def fn_swapped : Fn := mkFn 4 b_swapped
theorem swapped_ok {ns : List Int} {x : PyData} {i j : Nat} (hx : Sq x (zD ns)) (hl : ns.length < 1000) (h1 : i < j) (h2 : j < ns.length) : fn_swapped [.d x, .d (pD (castP (i, j)))] [] = .ok (.dat (.tuple (zD (swapM ns i j)))) [] := by
  have a1 := at_getD (ns := ns) (i := i) (by omega)
  have a2 := at_getD h2
  have c1 : cut (zD ns) none (some ((i : Nat) : Int)) = zD (ns.take i) := by rw [cut_map, cut_to]
  have c2 : cut (zD ns) (some (((i : Nat) : Int) + 1)) (some ((j : Nat) : Int)) = zD (betw ns i j) := by rw [cut_map, cut_betw h1 h2]
  have c3 : cut (zD ns) (some (((j : Nat) : Int) + 1)) none = zD (ns.drop (j + 1)) := by rw [cut_map, show ((j : Int) + 1) = ((j + 1 : Nat) : Int) by omega, cut_from]
  have lb : (betw ns i j).length ≤ ns.length := by unfold betw; rw [List.length_take, List.length_drop]; omega
  have lt : (ns.take i).length ≤ ns.length := by rw [List.length_take]; omega
  have ld : (ns.drop (j + 1)).length ≤ ns.length := by rw [List.length_drop]; omega
  have es : zD (swapM ns i j) = zD (ns.take i) ++ [.int (ns.getD j 0)] ++ zD (betw ns i j) ++ [.int (ns.getD i 0)] ++ zD (ns.drop (j + 1)) := by
    unfold swapM zD
    simp only [List.map_append, List.map_cons, List.map_nil]
  rw [pcast, es]
  revert c1 c2 c3 lb lt ld
  generalize ns.take i = T
  generalize betw ns i j = M
  generalize ns.drop (j + 1) = D
  intro c1 c2 c3 lb lt ld
  rcases hx with rfl | rfl <;> simp! [fn_swapped, b_swapped, a1, a2, c1, c2, c3, List.length_append, show T.length + 1 ≤ 100000 by omega, show T.length + 1 + M.length ≤ 100000 by omega, show T.length + 1 + M.length + 1 ≤ 100000 by omega, show T.length + 1 + M.length + 1 + D.length ≤ 100000 by omega, Bool.false_eq_true]
noncomputable def b_exchanged : FS :=
  (sSq (sEx (fCall fn_look_exchange false (fCons (fVar 0) (fCons (fVar 1) fNil))))
  (sRt (fCall fn_swapped true (fCons (fVar 0) (fCons (fVar 1) fNil)))))
noncomputable def fn_exchanged : Fn := mkFn 2 b_exchanged
theorem exchanged_ok {ns : List Int} {x : PyData} {i j : Nat} (hx : Sq x (zD ns)) (hl : ns.length < 1000) (h : (i, j) ∈ exchM ns) : fn_exchanged [.d x, .d (pD (castP (i, j)))] [] = .ok (.dat (.tuple (zD (swapM ns i j)))) [] := by
  obtain ⟨h1, h2, h3⟩ := exch_mem.mp h
  have r2 := swapped_ok (i := i) (j := j) hx hl (by omega) h2
  simp! [fn_exchanged, b_exchanged, call_of (look_exchange_ok hx hl h), call_of r2]
end DL
set_option Elab.async false
set_option linter.all false
set_option maxRecDepth 100000
set_option maxHeartbeats 1000000
set_option autoImplicit false
namespace DL
open PySem PySem.Spec PyProof.Rows L2
noncomputable def b_law_cell_at : FS :=
  (sSq (sIte (fTst (fOp opLt (fVar 1) (fCl clLen (fCons (fVar 0) fNil)))) (sRt (fOp opIx (fVar 0) (fVar 1))) sNx)
  (sRt (fC (.int 0))))
noncomputable def fn_law_cell_at : Fn := mkFn 2 b_law_cell_at
theorem cell_at_ok (ns : List Int) (j : Nat) : fn_law_cell_at [.s ns, .d (.int j)] [] = .ok (.dat (.int (ns.getD j 0))) [] := by
  by_cases h : j < ns.length
  · have e : atI (ns.map PyData.int) (j : Int) = some (.int (ns.getD j 0)) := by
      rw [atI_cast, List.getElem?_map, List.getD_eq_getElem?_getD, List.getElem?_eq_getElem h]; rfl
    simp! [fn_law_cell_at, b_law_cell_at, show (j : Int) < ((ns.length : Nat) : Int) by omega, e]
  · have e : ns.getD j 0 = 0 := by rw [List.getD_eq_getElem?_getD, List.getElem?_eq_none (by omega)]; rfl
    rw [e]
    simp! [fn_law_cell_at, b_law_cell_at, show ¬ ((j : Int) < ((ns.length : Nat) : Int)) by omega]
noncomputable def b_law_box : FS :=
  (sSq (sSet (fCall fn_law_cell_at false (fCons (fVar 0) (fCons (fVar 1) fNil))) (tN 2))
  (sRt (fLstO (fCons (fOp opMul (fCl clAbs (fCons (fVar 2) fNil)) (fCl clInt (fCons (fOp opGe (fCl clAbs (fCons (fVar 2) fNil)) (fOp opPow (fC (.int 10)) (fC (.int 18)))) fNil))) (fCons (fOp opAdd (fOp opAdd (fOp opMod (fVar 2) (fC (.int 2305843009213693951))) (fOp opMul (fC (.int 39373)) (fVar 1))) (fC (.int 29))) (fCons (fC (.int 0)) fNil))))))
noncomputable def fn_law_box : Fn := mkFn 3 b_law_box
theorem box_ok (ns : List Int) (j : Nat) (hj : j < 64) : ∃ bx, fn_law_box [.s ns, .d (.int j)] [] = .ok (.newC (.lst bx)) [] ∧ BoxOk 0 bx := by
  have hp : ((10 : Int) ^ (18 : Int).toNat) = 1000000000000000000 := by decide
  have hm : mulOk (if ns.getD j 0 < 0 then -ns.getD j 0 else ns.getD j 0) (if 1000000000000000000 ≤ if ns.getD j 0 < 0 then -ns.getD j 0 else ns.getD j 0 then 1 else 0) = true := mulOk_r (by split <;> split <;> decide) (by split <;> split <;> decide)
  have hm2 : mulOk 39373 (j : Int) = true := mulOk_l (by decide) (by decide)
  refine ⟨boxM (ns.getD j 0) j, ?_, boxM_ok _ _ hj⟩
  simp! [fn_law_box, b_law_box, call_of (cell_at_ok ns j), hm, hm2, boxM, show (10 : Int).natAbs < 18446744073709551616 by decide, show (0 : Int) < 2305843009213693951 by decide, show (18 : Int) ≤ 1000000 by decide, show (0 : Int) ≤ 18 by decide]
  try rfl
noncomputable def b_law_take (rec : Fn) : FS :=
  (sSq (sIte (fTst (fOp opGt (fOp opIx (fVar 0) (fC (.int 0))) (fC (.int 0)))) (sSq (sSet (fOp opMod (fOp opIx (fVar 0) (fC (.int 0))) (fVar 1)) (tN 2))
    (sSq (sSet (fOp opDiv (fOp opIx (fVar 0) (fC (.int 0))) (fVar 1)) (tSub (fVar 0) (fC (.int 0))))
    (sRt (fVar 2)))) sNx)
  (sSq (sIte (fTst (fOp opGt (fVar 1) (fOp opPow (fC (.int 10)) (fC (.int 7))))) (sRt (fOp opMod (fOp opAdd (fCall rec false (fCons (fVar 0) (fCons (fOp opPow (fC (.int 10)) (fC (.int 7))) fNil))) (fOp opMul (fOp opPow (fC (.int 10)) (fC (.int 7))) (fCall rec false (fCons (fVar 0) (fCons (fOp opAdd (fOp opDiv (fVar 1) (fOp opPow (fC (.int 10)) (fC (.int 7)))) (fC (.int 1))) fNil))))) (fVar 1))) sNx)
  (sSq (sSet (fOp opAdd (fOp opIx (fVar 0) (fC (.int 2))) (fC (.int 1))) (tSub (fVar 0) (fC (.int 2))))
  (sSq (sSet (fOp opMod (fOp opMul (fOp opAdd (fOp opIx (fVar 0) (fC (.int 1))) (fOp opMul (fC (.int 48271)) (fOp opIx (fVar 0) (fC (.int 2))))) (fOp opAdd (fC (.int 39373)) (fOp opIx (fVar 0) (fC (.int 2))))) (fC (.int 2147483647))) (tN 3))
  (sSq (sSet (fOp opMod (fOp opMul (fOp opAdd (fOp opAdd (fVar 3) (fOp opIx (fVar 0) (fC (.int 2)))) (fOp opDiv (fOp opIx (fVar 0) (fC (.int 1))) (fC (.int 1000003)))) (fOp opAdd (fOp opMod (fVar 3) (fC (.int 40009))) (fC (.int 7)))) (fC (.int 2147483629))) (tN 4))
  (sRt (fOp opMod (fOp opDiv (fOp opMod (fOp opAdd (fOp opMul (fVar 4) (fC (.int 48271))) (fVar 3)) (fC (.int 2147483587))) (fC (.int 64))) (fVar 1))))))))
noncomputable def fn_law_take : Nat → Fn
  | 0 => fun _ _ => .no
  | n + 1 => mkFn 5 (b_law_take (fn_law_take n))
def onceM (b c : Int) : Int := (b + 48271 * c) * (39373 + c) % 2147483647
def twiceM (b c : Int) : Int := (onceM b c + c + b / 1000003) * (onceM b c % 40009 + 7) % 2147483629
def drawM (b c below : Int) : Int := (twiceM b c * 48271 + onceM b c) % 2147483587 / 64 % below
theorem ixN_30 : ixN 3 0 = some 0 := rfl
theorem ixN_32 : ixN 3 2 = some 2 := rfl
theorem take_ok : ∀ (k : Nat), k ≤ 4 → ∀ {n : Nat} {bx : List PyData} {below : Int}, BoxOk n bx → n + 2 ^ k < 1000000000 → 1 ≤ below → below ≤ 10 ^ (7 + 6 * k) → ∃ r bx', fn_law_take (k + 1) [.o 0, .d (.int below)] [.lst bx] = .ok (.dat (.int r)) [.lst bx'] ∧ 0 ≤ r ∧ r < below ∧ BoxOk (n + 2 ^ k) bx' := by
  intro k
  induction k with
  | zero =>
    intro hk n bx below hbx hn h1 h2
    obtain ⟨a, b, c, rfl, ha, hb0, hb1, hc0, hc1⟩ := hbx
    have p7 : ((10 : Int) ^ (7 : Int).toNat) = 10000000 := by decide
    have hb : below ≤ 10000000 := h2
    have hlog : below.natAbs.log2 < 9000 := log_small (by omega) (by omega)
    by_cases g1 : 0 < a
    · refine ⟨a % below, [.int (a / below), .int b, .int c], ?_, Int.emod_nonneg _ (by omega), Int.emod_lt_of_pos _ (by omega), ⟨_, _, _, rfl, Int.ediv_nonneg ha (by omega), hb0, hb1, hc0, by omega⟩⟩
      simp! [fn_law_take, b_law_take, atI_0, g1, show (0 : Int) < below by omega, hlog, ixN_30]
    · have m1 : mulOk 48271 (c + 1) = true := mulOk_l (by decide) (by decide)
      have m2 : ∀ u : Int, mulOk u (39373 + (c + 1)) = true := fun u => mulOk_r (by omega) (by omega)
      have m3 : ∀ u v : Int, mulOk u (v % 40009 + 7) = true := fun u v => by
        have := Int.emod_nonneg v (show (40009 : Int) ≠ 0 by decide)
        have := Int.emod_lt_of_pos v (show (0 : Int) < 40009 by decide)
        exact mulOk_r (by omega) (by omega)
      have m4 : ∀ u : Int, mulOk u 48271 = true := fun u => mulOk_r (by decide) (by decide)
      have l1 : (1000003 : Int).natAbs.log2 < 9000 := log_small (by decide) (by decide)
      have l2 : (64 : Int).natAbs.log2 < 9000 := log_small (by decide) (by decide)
      have g2 : ¬ (10000000 : Int) < below := by omega
      refine ⟨drawM b (c + 1) below, [.int a, .int b, .int (c + 1)], ?_, Int.emod_nonneg _ (by omega), Int.emod_lt_of_pos _ (by omega), ⟨_, _, _, rfl, ha, hb0, hb1, by omega, by omega⟩⟩
      simp! [fn_law_take, b_law_take, atI_0, atI_1, atI_2, g1, g2, m1, m2, m3, m4, l1, l2, show (0 : Int) < below by omega, hlog, ixN_32, show (10 : Int).natAbs < 18446744073709551616 by decide, drawM, twiceM, onceM]
  | succ k ih =>
    intro hk n bx below hbx hn h1 h2
    obtain ⟨a, b, c, rfl, ha, hb0, hb1, hc0, hc1⟩ := id hbx
    have hk' : k = 0 ∨ k = 1 ∨ k = 2 ∨ k = 3 := by omega
    have hk2 : 1 ≤ 2 ^ k := Nat.one_le_two_pow
    have hp1 : (10 : Int) ^ (7 + 6 * (k + 1)) ≤ 10 ^ 100 := by rcases hk' with rfl | rfl | rfl | rfl <;> decide
    have hlog : below.natAbs.log2 < 9000 := log_small (by omega) (by omega)
    have e2 : 2 ^ (k + 1) = 2 ^ k + 2 ^ k := by omega
    by_cases g1 : 0 < a
    · refine ⟨a % below, [.int (a / below), .int b, .int c], ?_, Int.emod_nonneg _ (by omega), Int.emod_lt_of_pos _ (by omega), ⟨_, _, _, rfl, Int.ediv_nonneg ha (by omega), hb0, hb1, hc0, by omega⟩⟩
      simp! [fn_law_take, b_law_take, atI_0, g1, show (0 : Int) < below by omega, hlog, ixN_30]
    · by_cases g2 : (10000000 : Int) < below
      · have q1 : (10 : Int) ^ (7 + 6 * k) ≥ 10 ^ 7 := by rcases hk' with rfl | rfl | rfl | rfl <;> decide
        have q2 : (10 : Int) ^ (7 + 6 * (k + 1)) = 10 ^ (6 * k + 6) * 10000000 := by
          rw [show 7 + 6 * (k + 1) = 6 * k + 6 + 7 by omega, Int.pow_add]; rfl
        have q3 : (10 : Int) ^ (7 + 6 * k) = 10 ^ (6 * k + 6) * 10 := by
          rw [show 7 + 6 * k = 6 * k + 6 + 1 by omega, Int.pow_succ]
        have q4 : (10 : Int) ^ (6 * k + 6) ≥ 10 ^ 6 := by rcases hk' with rfl | rfl | rfl | rfl <;> decide
        have q5 : below / 10000000 ≤ 10 ^ (6 * k + 6) := by
          rw [q2] at h2
          exact Int.ediv_le_of_le_mul (by decide) h2
        have q6 : 0 ≤ below / 10000000 := Int.ediv_nonneg (by omega) (by decide)
        obtain ⟨r1, bx1, f1, f2, f3, f4⟩ := ih (by omega) (below := 10000000) hbx (by omega) (by decide) (by omega)
        obtain ⟨r2, bx2, s1, s2, s3, s4⟩ := ih (by omega) (below := below / 10000000 + 1) f4 (by omega) (by omega) (by omega)
        have l1 : (10000000 : Int).natAbs.log2 < 9000 := log_small (by decide) (by decide)
        have m1 : mulOk 10000000 r2 = true := mulOk_l (by decide) (by decide)
        refine ⟨(r1 + 10000000 * r2) % below, bx2, ?_, Int.emod_nonneg _ (by omega), Int.emod_lt_of_pos _ (by omega), s4.mono (by omega)⟩
        have c1 := fun (sl : List (Option R)) => callB_of f1 (j := 0) (g := ⟨sl, [.lst [.int a, .int b, .int c]]⟩) false rfl
        have c2 := fun (sl : List (Option R)) => callB_of s1 (j := 0) (g := ⟨sl, [.lst bx1]⟩) false rfl
        rw [fn_law_take]
        simp! [b_law_take, atI_0, atI_1, atI_2, g1, g2, c1, c2, l1, m1, show (0 : Int) < below by omega, show (10 : Int).natAbs < 18446744073709551616 by decide]
      · have hb : below ≤ 10000000 := by omega
        have m1 : mulOk 48271 (c + 1) = true := mulOk_l (by decide) (by decide)
        have m2 : ∀ u : Int, mulOk u (39373 + (c + 1)) = true := fun u => mulOk_r (by omega) (by omega)
        have m3 : ∀ u v : Int, mulOk u (v % 40009 + 7) = true := fun u v => by
          have := Int.emod_nonneg v (show (40009 : Int) ≠ 0 by decide)
          have := Int.emod_lt_of_pos v (show (0 : Int) < 40009 by decide)
          exact mulOk_r (by omega) (by omega)
        have m4 : ∀ u : Int, mulOk u 48271 = true := fun u => mulOk_r (by decide) (by decide)
        have l1 : (1000003 : Int).natAbs.log2 < 9000 := log_small (by decide) (by decide)
        have l2 : (64 : Int).natAbs.log2 < 9000 := log_small (by decide) (by decide)
        have p2 : 1 ≤ 2 ^ (k + 1) := Nat.one_le_two_pow
        refine ⟨drawM b (c + 1) below, [.int a, .int b, .int (c + 1)], ?_, Int.emod_nonneg _ (by omega), Int.emod_lt_of_pos _ (by omega), ⟨_, _, _, rfl, ha, hb0, hb1, by omega, by omega⟩⟩
        simp! [fn_law_take, b_law_take, atI_0, atI_1, atI_2, g1, g2, m1, m2, m3, m4, l1, l2, show (0 : Int) < below by omega, hlog, ixN_32, show (10 : Int).natAbs < 18446744073709551616 by decide, drawM, twiceM, onceM]
/-- a draw below at most 10 ^ 25 -/
theorem take4 {n : Nat} {bx : List PyData} {below : Int} (h : BoxOk n bx) (hn : n < 900000000) (h1 : 1 ≤ below) (h2 : below ≤ 10 ^ 25) : ∃ r bx', fn_law_take 4 [.o 0, .d (.int below)] [.lst bx] = .ok (.dat (.int r)) [.lst bx'] ∧ 0 ≤ r ∧ r < below ∧ BoxOk (n + 8) bx' := take_ok 3 (by omega) h (by omega) h1 h2
end DL
set_option Elab.async false
set_option linter.all false
set_option maxRecDepth 100000
set_option maxHeartbeats 1000000
set_option autoImplicit false
namespace DL
open PySem PySem.Spec PyProof.Rows L2
noncomputable def b_law_of : FS :=
  (sRt (fOp opIx (fVar 1) (fCall (fn_law_take 4) false (fCons (fVar 0) (fCons (fCl clLen (fCons (fVar 1) fNil)) fNil)))))
noncomputable def fn_law_of : Fn := mkFn 2 b_law_of
theorem of_ok {n : Nat} {bx : List PyData} {x : PyData} {ds : List PyData} (h : BoxOk n bx) (hn : n < 900000000) (hx : Sq x ds) (h0 : 0 < ds.length) (h1 : ds.length ≤ 1000000) : ∃ d bx', d ∈ ds ∧ fn_law_of [.o 0, .d x] [.lst bx] = .ok (.dat d) [.lst bx'] ∧ BoxOk (n + 8) bx' := by
  obtain ⟨r, bx', e, r0, r1, hb⟩ := take4 (below := (ds.length : Nat)) h hn (by omega) (by omega)
  obtain ⟨d, hd, _, ha⟩ := atI_int (xs := ds) r0 r1
  have c1 := fun (sl : List (Option R)) => callB_of e (j := 0) (g := ⟨sl, [.lst bx]⟩) false rfl
  refine ⟨d, bx', hd, ?_, hb⟩
  rcases hx with rfl | rfl <;> simp! [fn_law_of, b_law_of, c1, ha]
noncomputable def wt_law_strewn_1 : FT := (fTst (fOp opNe (fVar 2) (fLst fNil)))
noncomputable def wu_law_strewn_1 : FS := (sEx (fMt mtAppend (fVar 3) (fCons (fMt mtPop (fVar 2) (fCons (fCall (fn_law_take 4) false (fCons (fVar 0) (fCons (fCl clLen (fCons (fVar 2) fNil)) fNil))) fNil)) fNil)))
noncomputable def b_law_strewn : FS :=
  (sSq (sP2 2 3 (fCons (fListO (fCons (fVar 1) fNil)) (fCons (fLstO fNil) fNil)))
  (sSq (sWh wt_law_strewn_1 wu_law_strewn_1)
  (sRt (fVar 3))))
noncomputable def fn_law_strewn : Fn := mkFn 4 b_law_strewn
theorem plain_list {ds : List PyData} {n : Nat} (h : ds.all (plain n) = true) (hn : n < 59) : SeqAt.shaped (.list ds) = true := plain_shaped (n := n + 1) (d := .list ds) h (by omega)
theorem eqv_nil {d : PyData} {ds : List PyData} : PyData.eqv (.list (d :: ds)) (.list []) = false := by simp [PyData.eqv, PyData.eqvAll]
theorem eqv_nil0 : PyData.eqv (.list []) (.list []) = true := by simp [PyData.eqv, PyData.eqvAll]
theorem shaped_nil : SeqAt.shaped (.list []) = true := by decide
theorem strewn_ok {n : Nat} {bx : List PyData} {x : PyData} {ds : List PyData} (h : BoxOk n bx) (hn : n + 8 * ds.length < 900000000) (hx : Sq x ds) (h1 : ds.length ≤ 10000) (hp : ds.all (plain 5) = true) : ∃ es bx', es.Perm ds ∧ fn_law_strewn [.o 0, .d x] [.lst bx] = .ok (.newC (.lst es)) [.lst bx'] ∧ BoxOk (n + 8 * ds.length) bx' := by
  obtain ⟨g', e, bx', es, rfl, hq, hb⟩ := sWh_inv (t := wt_law_strewn_1) (u := wu_law_strewn_1) (g := ⟨[some (.o 0), some (.d x), some (.o 1), some (.o 2)], [.lst bx, .lst ds, .lst []]⟩)
    (fun m g => ∃ bx' ls fs, g = ⟨[some (.o 0), some (.d x), some (.o 1), some (.o 2)], [.lst bx', .lst ls, .lst fs]⟩ ∧ ls.length = m ∧ (fs ++ ls).Perm ds ∧ BoxOk (n + 8 * fs.length) bx')
    (fun g => ∃ bx' fs, g = ⟨[some (.o 0), some (.d x), some (.o 1), some (.o 2)], [.lst bx', .lst [], .lst fs]⟩ ∧ fs.Perm ds ∧ BoxOk (n + 8 * fs.length) bx') ds.length ⟨bx, ds, [], rfl, rfl, List.Perm.refl _, h⟩ (fun m g hI => by
      obtain ⟨bx1, ls, fs, rfl, hm, hq, hb⟩ := hI
      have hl := hq.length_eq
      rw [List.length_append] at hl
      have hpl : ls.all (plain 5) = true := by
        rw [List.all_eq_true] at hp ⊢
        exact fun z hz => hp z (hq.subset (List.mem_append_right _ hz))
      have hs := plain_list hpl (by decide)
      cases ls with
      | nil =>
        refine .inl ⟨_, ?_, bx1, fs, rfl, by simpa using hq, hb⟩
        simp! [wt_law_strewn_1, shaped_nil, eqv_nil0]
      | cons d ls =>
        obtain ⟨r, bx2, e, r0, r1, hb2⟩ := take4 (below := ((d :: ls).length : Nat)) hb (by omega) (by simp only [List.length_cons]; omega) (by omega)
        have hr : r.toNat < (d :: ls).length := by omega
        have hx := List.getElem?_eq_getElem hr
        have c1 := fun (sl : List (Option R)) => callB_of e (j := 0) (g := ⟨sl, [.lst bx1, .lst (d :: ls), .lst fs]⟩) false rfl
        have hpop : popL r (d :: ls) = some (.d (d :: ls)[r.toNat], (d :: ls).eraseIdx r.toNat) := by
          unfold popL
          rw [if_pos ⟨by omega, by omega⟩, seqIx r0 r1]
          simp only [hx]
        simp only [List.length_cons] at c1
        refine .inr ⟨⟨[some (.o 0), some (.d x), some (.o 1), some (.o 2)], [.lst bx1, .lst (d :: ls), .lst fs]⟩, ⟨[some (.o 0), some (.d x), some (.o 1), some (.o 2)], [.lst bx2, .lst ((d :: ls).eraseIdx r.toNat), .lst (fs ++ [(d :: ls)[r.toNat]])]⟩, ((d :: ls).eraseIdx r.toNat).length, ?_, .inl ?_, ?_, bx2, _, _, rfl, rfl, perm_pop hq hx, hb2.mono ?_⟩
        · simp! [wt_law_strewn_1, hs, shaped_nil, eqv_nil]
        · simp! [wu_law_strewn_1, c1, hpop, show fs.length < 100000 by omega]
        · rw [List.length_eraseIdx_of_lt hr, ← hm]; simp only [List.length_cons]; omega
        · rw [List.length_append]; simp only [List.length_cons, List.length_nil]; omega)
  refine ⟨es, bx', hq, ?_, hb.mono (by rw [hq.length_eq]; exact Nat.le_refl _)⟩
  rcases hx with rfl | rfl <;> simp! [fn_law_strewn, b_law_strewn, e, show (1 : Nat) ≤ 2 by decide]
end DL
set_option Elab.async false
set_option linter.all false
set_option maxRecDepth 100000
set_option maxHeartbeats 1000000
set_option autoImplicit false
namespace DL
open PySem PySem.Spec PyProof.Rows L2
noncomputable def wt_law_souls_1 : FT := (fTst (fOp opIn (fVar 5) (fVar 2)))
noncomputable def wu_law_souls_1 : FS := (sSet (fOp opAdd (fOp opMod (fVar 5) (fCl clMax (fCons (fVar 3) (fCons (fVar 1) fNil)))) (fC (.int 1))) (tN 5))
noncomputable def ft_law_souls_1 : FG := (tN 4)
noncomputable def fu_law_souls_1 : FS := (sSq (sSet (fOp opAdd (fC (.int 1)) (fCall (fn_law_take 4) false (fCons (fVar 0) (fCons (fCl clMax (fCons (fC (.int 1)) (fCons (fVar 3) fNil))) fNil)))) (tN 5))
    (sSq (sWh wt_law_souls_1 wu_law_souls_1)
    (sPut (fVar 2) (fVar 5) (fC (.bool true)))))
noncomputable def b_law_souls : FS :=
  (sSq (sP2 2 3 (fCons fDict0 (fCons (fCall fn_law_of false (fCons (fVar 0) (fCons (fLst (fCons (fVar 1) (fCons (fOp opAdd (fOp opMul (fC (.int 3)) (fVar 1)) (fC (.int 1))) (fCons (fOp opPow (fC (.int 10)) (fC (.int 9))) fNil)))) fNil))) fNil)))
  (sSq (sFr (iRg1 (fCons (fVar 1) fNil)) ft_law_souls_1 fu_law_souls_1)
  (sRt (fCl clSorted (fCons (fVar 2) fNil)))))
noncomputable def fn_law_souls : Fn := mkFn 6 b_law_souls
theorem souls_ok {n c : Nat} {bx : List PyData} (h : BoxOk n bx) (hn : n + 8 + 8 * c < 900000000) (hc : c < 60) : ∃ ns bx', fn_law_souls [.o 0, .d (.int c)] [.lst bx] = .ok (.dat (.list (zD ns))) [.lst bx'] ∧ ns.length = c ∧ ns.Pairwise (· < ·) ∧ (∀ z ∈ ns, 1 ≤ z ∧ z ≤ 1000000000) ∧ BoxOk (n + 8 + 8 * c) bx' := by
  have m3 : mulOk 3 ((c : Nat) : Int) = true := mulOk_l (by decide) (by decide)
  obtain ⟨top, bx0, ht, e0, hb0⟩ := of_ok (x := .list (zD [((c : Nat) : Int), 3 * (c : Nat) + 1, 1000000000])) h (by omega) sqL (by simp) (by simp)
  obtain ⟨t, ht1, ht2⟩ : ∃ t : Int, top = .int t ∧ ((t = c ∨ t = 3 * c + 1) ∨ t = 1000000000) := by
    obtain ⟨z, hz, rfl⟩ := List.mem_map.mp ht
    simp only [List.mem_cons, List.not_mem_nil, or_false] at hz
    exact ⟨z, rfl, by omega⟩
  subst ht1
  have tb : 0 ≤ t ∧ t ≤ 1000000000 ∧ (c : Int) ≤ t := by omega
  have mx : (if ((c : Nat) : Int) > t then ((c : Nat) : Int) else t) = t := by rw [if_neg (by omega)]
  obtain ⟨g', e1, bx', ks, a, b, rfl, hk1, hk2, hk3, hb⟩ := forGo_inv (emb := fun (i : Nat) => PyData.int (i : Int)) (t := ft_law_souls_1) (u := fu_law_souls_1) (xs := List.range c) (g := ⟨[some (.o 0), some (.d (.int c)), some (.o 1), some (.d (.int t)), none, none], [.lst bx0, .dK []]⟩)
    (fun i g => ∃ bx' ks a b, g = ⟨[some (.o 0), some (.d (.int c)), some (.o 1), some (.d (.int t)), a, b], [.lst bx', .dK (kD ks)]⟩ ∧ ks.length = i ∧ ks.Nodup ∧ (∀ z ∈ ks, 1 ≤ z ∧ z ≤ t) ∧ BoxOk (n + 8 + 8 * i) bx') ⟨bx0, [], none, none, rfl, rfl, List.nodup_nil, (fun z hz => nomatch hz), hb0⟩ (fun i z g hz hI => by
      obtain ⟨bx1, ks, a, b, rfl, h1, h2, h3, hb⟩ := hI
      have hi : i < c := by
        have := (List.getElem?_eq_some_iff.mp hz).1
        simpa using this
      have ez : z = i := by
        have := (List.getElem?_eq_some_iff.mp hz).2
        simpa using this.symm
      subst ez
      have t1 : 1 ≤ t := by omega
      have mx1 : (if t > 1 then t else 1) = t := by split <;> omega
      obtain ⟨r, bx2, e, r0, r1, hb2⟩ := take4 (below := t) hb (by omega) t1 (by omega)
      have c1 := fun (sl : List (Option R)) => callB_of e (j := 0) (g := ⟨sl, [.lst bx1, .dK (kD ks)]⟩) false rfl
      obtain ⟨v, v1, v2, v3⟩ := free_one (ks := ks) (m := t.toNat) (by omega)
      obtain ⟨g3, e3, s, rfl, s1, s2, s3⟩ := sWh_inv0 (t := wt_law_souls_1) (u := wu_law_souls_1) (g := ⟨[some (.o 0), some (.d (.int c)), some (.o 1), some (.d (.int t)), some (.d (.int z)), some (.d (.int (1 + r)))], [.lst bx2, .dK (kD ks)]⟩)
        (fun m g => ∃ s : Int, g = ⟨[some (.o 0), some (.d (.int c)), some (.o 1), some (.d (.int t)), some (.d (.int z)), some (.d (.int s))], [.lst bx2, .dK (kD ks)]⟩ ∧ 1 ≤ s ∧ s ≤ t ∧ ((v - s) % t).toNat = m)
        (fun g => ∃ s : Int, g = ⟨[some (.o 0), some (.d (.int c)), some (.o 1), some (.d (.int t)), some (.d (.int z)), some (.d (.int s))], [.lst bx2, .dK (kD ks)]⟩ ∧ 1 ≤ s ∧ s ≤ t ∧ s ∉ ks) _ ⟨1 + r, rfl, by omega, by omega, rfl⟩ (fun m g hI => by
          obtain ⟨s, rfl, s1, s2, hm⟩ := hI
          have hd := kD_val ks s
          by_cases q : s ∈ ks
          · have zz := step_free v1 (by omega) s1 s2 (fun z => v3 (z ▸ q))
            refine .inr ⟨⟨[some (.o 0), some (.d (.int c)), some (.o 1), some (.d (.int t)), some (.d (.int z)), some (.d (.int (s % t + 1)))], [.lst bx2, .dK (kD ks)]⟩, ((v - (s % t + 1)) % t).toNat, ?_, ?_, by rw [← hm]; exact zz.2.2, s % t + 1, rfl, zz.1, zz.2.1, rfl⟩
            · simp! [wt_law_souls_1, opIn, inB, dGet, hd, q]
            · simp! [wu_law_souls_1, mx, show (0 : Int) < t by omega]
          · refine .inl ⟨?_, s, rfl, s1, s2, q⟩
            simp! [wt_law_souls_1, opIn, inB, dGet, hd, q])
      refine ⟨⟨[some (.o 0), some (.d (.int c)), some (.o 1), some (.d (.int t)), some (.d (.int z)), some (.d (.int s))], [.lst bx2, .dK (kD (ks ++ [s]))]⟩, .inl ?_, bx2, ks ++ [s], _, _, rfl, by rw [List.length_append, h1]; rfl, ?_, ?_, hb2.mono (by omega)⟩
      · simp! [ft_law_souls_1, fu_law_souls_1, mx1, c1, e3, dPut, kD_len, show ks.length < 100000 by omega, kD_put s3]
      · exact List.nodup_append.mpr ⟨h2, by simp, fun a ha b hb => by rw [List.mem_singleton.mp hb]; exact fun z => s3 (z ▸ ha)⟩
      · intro z hz
        rcases List.mem_append.mp hz with z' | z'
        · exact h3 z z'
        · rw [List.mem_singleton.mp z']; exact ⟨s1, s2⟩)
  rw [List.length_range] at hk1 hb
  rw [← rng0] at e1
  have c2 := fun (sl : List (Option R)) => callB_of e0 (j := 0) (g := ⟨sl, [.lst bx, .dK []]⟩) false rfl
  simp only [zD, List.map_cons, List.map_nil] at c2
  have hr : rOk ((c : Nat) : Int) = true := rOk_of (by omega) (by omega)
  refine ⟨srt ks, bx', ?_, by rw [srt_len]; exact hk1, srt_lt hk2, fun z hz => ?_, hb⟩
  · simp! [fn_law_souls, b_law_souls, m3, c2, hr, Int.toNat_natCast, e1, kD_keys, show ks.length < 64 by omega, show (10 : Int).natAbs < 18446744073709551616 by decide]
  · have := hk3 z (srt_mem.mp hz)
    omega
noncomputable def ft_law_crowd_1 : FG := (tN 4)
noncomputable def fu_law_crowd_1 : FS := (sEx (fMt mtInsert (fVar 3) (fCons (fIf (fTst (fOp opGt (fCall (fn_law_take 4) false (fCons (fVar 0) (fCons (fC (.int 3)) fNil))) (fC (.int 0)))) (fOp opDiv (fCl clLen (fCons (fVar 3) fNil)) (fC (.int 2))) (fCall (fn_law_take 4) false (fCons (fVar 0) (fCons (fOp opAdd (fCl clLen (fCons (fVar 3) fNil)) (fC (.int 1))) fNil)))) (fCons (fVar 4) fNil))))
noncomputable def b_law_crowd : FS :=
  (sSq (sSet (fCall fn_law_souls false (fCons (fVar 0) (fCons (fCall (fn_law_take 4) false (fCons (fVar 0) (fCons (fOp opAdd (fVar 1) (fC (.int 1))) fNil))) fNil))) (tN 2))
  (sSq (sIte (fTst (fOp opEq (fCall (fn_law_take 4) false (fCons (fVar 0) (fCons (fC (.int 2)) fNil))) (fC (.int 0)))) (sRt (fCl clTuple (fCons (fCall fn_law_strewn false (fCons (fVar 0) (fCons (fVar 2) fNil))) fNil))) sNx)
  (sSq (sSet (fLstO fNil) (tN 3))
  (sSq (sFr (iSeq (fRev (fVar 2))) ft_law_crowd_1 fu_law_crowd_1)
  (sRt (fCl clTuple (fCons (fVar 3) fNil)))))))
noncomputable def fn_law_crowd : Fn := mkFn 5 b_law_crowd
theorem crowd_ok {n m : Nat} {bx : List PyData} (h : BoxOk n bx) (hn : n < 800000000) (hm : m < 50) : ∃ ns bx', fn_law_crowd [.o 0, .d (.int m)] [.lst bx] = .ok (.dat (.tuple (zD ns))) [.lst bx'] ∧ ns.length ≤ m ∧ ns.Nodup ∧ (∀ z ∈ ns, 1 ≤ z ∧ z ≤ 1000000000) ∧ BoxOk (n + 2000) bx' := by
  obtain ⟨r, bx1, e1, r0, r1, hb1⟩ := take4 (below := (m : Int) + 1) h (by omega) (by omega) (by omega)
  obtain ⟨c, rfl⟩ : ∃ c : Nat, r = c := ⟨r.toNat, by omega⟩
  obtain ⟨ss, bx2, e2, l2, p2, q2, hb2⟩ := souls_ok (c := c) hb1 (by omega) (by omega)
  obtain ⟨r3, bx3, e3, r30, r31, hb3⟩ := take4 (below := 2) hb2 (by omega) (by omega) (by omega)
  have c1 := fun (sl : List (Option R)) => callB_of e1 (j := 0) (g := ⟨sl, [.lst bx]⟩) false rfl
  have c2 := fun (sl : List (Option R)) => callB_of e2 (j := 0) (g := ⟨sl, [.lst bx1]⟩) false rfl
  have c3 := fun (sl : List (Option R)) => callB_of e3 (j := 0) (g := ⟨sl, [.lst bx2]⟩) false rfl
  have nd : ss.Nodup := nodup_of_lt p2
  by_cases q : r3 = 0
  · subst q
    obtain ⟨es, bx4, hp, e4, hb4⟩ := strewn_ok (x := .list (zD ss)) (ds := zD ss) hb3 (by rw [List.length_map]; omega) sqL (by rw [List.length_map]; omega) (plain_ints ss 5)
    obtain ⟨ns, rfl, hp1⟩ := perm_zD hp
    have c4 := fun (sl : List (Option R)) => callB_new e4 (j := 0) (g := ⟨sl, [.lst bx3]⟩) rfl
    refine ⟨ns, bx4, ?_, by rw [hp1.length_eq]; omega, hp1.nodup_iff.mpr nd, fun z hz => q2 z (hp1.mem_iff.mp hz), hb4.mono (by rw [List.length_map]; omega)⟩
    simp! [fn_law_crowd, b_law_crowd, c1, c2, c3, c4]
  · have er : (zD ss).reverse = zD ss.reverse := by unfold zD; rw [List.map_reverse]
    obtain ⟨g', e, bx', fs, a, rfl, hp, hb⟩ := forGo_inv (emb := PyData.int) (t := ft_law_crowd_1) (u := fu_law_crowd_1) (xs := ss.reverse) (g := ⟨[some (.o 0), some (.d (.int m)), some (.d (.list (zD ss))), some (.o 1), none], [.lst bx3, .lst []]⟩)
      (fun i g => ∃ bx' fs a, g = ⟨[some (.o 0), some (.d (.int m)), some (.d (.list (zD ss))), some (.o 1), a], [.lst bx', .lst (zD fs)]⟩ ∧ fs.Perm (ss.reverse.take i) ∧ BoxOk (n + 8 + (8 + 8 * c) + 8 + 16 * i) bx') ⟨bx3, [], none, rfl, List.Perm.refl _, hb3.mono (by omega)⟩ (fun i z g hz hI => by
        obtain ⟨bx', fs, a, rfl, hp, hb⟩ := hI
        have hi : i < ss.length := by
          have := (List.getElem?_eq_some_iff.mp hz).1
          rwa [List.length_reverse] at this
        have lf : fs.length = i := by rw [hp.length_eq, List.length_take, List.length_reverse]; omega
        have e1 : ss.reverse.take (i + 1) = ss.reverse.take i ++ [z] := by rw [List.take_add_one, hz]; rfl
        obtain ⟨w, bx5, e5, w0, w1, hb5⟩ := take4 (below := 3) hb (by omega) (by omega) (by omega)
        obtain ⟨y, bx6, e6, y0, y1, hb6⟩ := take4 (below := ((fs.length : Nat) : Int) + 1) hb5 (by omega) (by omega) (by omega)
        have c5 := fun (sl : List (Option R)) => callB_of e5 (j := 0) (g := ⟨sl, [.lst bx', .lst (zD fs)]⟩) false rfl
        have c6 := fun (sl : List (Option R)) => callB_of e6 (j := 0) (g := ⟨sl, [.lst bx5, .lst (zD fs)]⟩) false rfl
        have l2 : (2 : Int).natAbs.log2 < 9000 := log_small (by decide) (by decide)
        have fin : ∀ (k : Nat), (zD fs).take k ++ [PyData.int z] ++ (zD fs).drop k = zD (insP fs (z, (k : Int))) := fun k => by
          unfold insP zD
          rw [List.map_append, List.map_append, List.map_take, List.map_drop]
          simp
        have pm : ∀ (k : Int), (insP fs (z, k)).Perm (ss.reverse.take (i + 1)) := fun k => by
          rw [e1]
          exact insP_perm.trans ((List.Perm.cons z hp).trans (List.perm_append_comm (l₁ := [z])))
        by_cases q : 0 < w
        · refine ⟨⟨[some (.o 0), some (.d (.int m)), some (.d (.list (zD ss))), some (.o 1), some (.d (.int z))], [.lst bx5, .lst (zD (insP fs (z, ((fs.length / 2 : Nat) : Int))))]⟩, .inl ?_, bx5, _, _, rfl, pm _, hb5.mono (by omega)⟩
          have ed : ((fs.length : Nat) : Int) / 2 = ((fs.length / 2 : Nat) : Int) := rfl
          simp! [ft_law_crowd_1, fu_law_crowd_1, c5, q, l2, ed, show fs.length < 100000 by omega, show (0 : Int) ≤ ((fs.length / 2 : Nat) : Int) by omega, show ((fs.length / 2 : Nat) : Int) < 9223372036854775808 by omega, Int.toNat_natCast, fin]
        · obtain ⟨k, rfl⟩ : ∃ k : Nat, y = k := ⟨y.toNat, by omega⟩
          refine ⟨⟨[some (.o 0), some (.d (.int m)), some (.d (.list (zD ss))), some (.o 1), some (.d (.int z))], [.lst bx6, .lst (zD (insP fs (z, (k : Int))))]⟩, .inl ?_, bx6, _, _, rfl, pm _, hb6.mono (by omega)⟩
          simp! [ft_law_crowd_1, fu_law_crowd_1, c5, c6, q, show fs.length < 100000 by omega, show (0 : Int) ≤ (k : Int) by omega, show (k : Int) < 9223372036854775808 by omega, Int.toNat_natCast, fin])
    rw [List.length_reverse, List.take_of_length_le (by rw [List.length_reverse]; exact Nat.le_refl _)] at hp
    rw [List.length_reverse] at hb
    have hp2 : fs.Perm ss := hp.trans (List.reverse_perm ss)
    refine ⟨fs, bx', ?_, by rw [hp2.length_eq]; omega, hp2.nodup_iff.mpr nd, fun z hz => q2 z (hp2.mem_iff.mp hz), hb.mono (by omega)⟩
    simp! [fn_law_crowd, b_law_crowd, c1, c2, c3, q, er, e]
end DL
set_option Elab.async false
set_option linter.all false
set_option maxRecDepth 100000
set_option maxHeartbeats 1000000
set_option autoImplicit false
namespace DL
open PySem PySem.Spec PyProof.Rows L2
noncomputable def ct_law_sees_1 : FG := (tN 3)
noncomputable def cc_law_sees_1 : FT := fYes
noncomputable def cf_law_sees_1 : FE := (fOp opLt (fVar 3) (fCl clMin (fCons (fOp opIx (fVar 0) (fVar 1)) (fCons (fOp opIx (fVar 0) (fVar 2)) fNil))))
noncomputable def b_law_sees : FS :=
  (sRt (fCl clAll (fCons (fLc (iSeq (fSl (fVar 0) (fPart (fOp opAdd (fVar 1) (fC (.int 1)))) (fPart (fVar 2)))) ct_law_sees_1 cc_law_sees_1 cf_law_sees_1 [3]) fNil)))
noncomputable def fn_law_sees : Fn := mkFn 4 b_law_sees
theorem lsees_ok {ns : List Int} {x : PyData} {i j : Nat} (hx : Sq x (zD ns)) (hl : ns.length < 1000) (hij : i < j) (hj : j < ns.length) : fn_law_sees [.d x, .d (.int i), .d (.int j)] [] = .ok (.dat (.bool (seesN ns i j))) [] := by
  have a1 := at_getD (ns := ns) (i := i) (by omega)
  have a2 := at_getD hj
  have lb : (betw ns i j).length ≤ ns.length := by unfold betw; rw [List.length_take, List.length_drop]; omega
  have c2 : cut (zD ns) (some (((i : Nat) : Int) + 1)) (some ((j : Nat) : Int)) = (betw ns i j).map PyData.int := by rw [cut_map, cut_betw hij hj]
  have step := lcGo_map (emb := PyData.int) (t := ct_law_sees_1) (c := cc_law_sees_1) (f := cf_law_sees_1) (sl := [some (.d x), some (.d (.int i)), some (.d (.int j)), none]) (ws := [3]) (ce := []) (fun z => .bool (decide (z < minI (ns.getD i 0) (ns.getD j 0)))) (xs := betw ns i j) (by omega) (fun z hz => by
    rcases hx with rfl | rfl <;> simp! [lcSt, ct_law_sees_1, cc_law_sees_1, cf_law_sees_1, a1, a2, minI_fold])
  have e2 : (betw ns i j).map (fun z => PyData.bool (decide (z < minI (ns.getD i 0) (ns.getD j 0)))) = ((betw ns i j).map (fun z => decide (z < minI (ns.getD i 0) (ns.getD j 0)))).map PyData.bool := by rw [List.map_map]; rfl
  rw [e2] at step
  have e3 : ((betw ns i j).map (fun z => decide (z < minI (ns.getD i 0) (ns.getD j 0)))).all id = seesN ns i j := by rw [List.all_map]; rfl
  rcases hx with rfl | rfl <;> simp! [fn_law_sees, b_law_sees, c2, step, e3]
noncomputable def ct_law_swaps_1 : FG := (tN 3)
noncomputable def cc_law_swaps_1 : FT := (fTst (fCall fn_law_sees false (fCons (fVar 0) (fCons (fVar 2) (fCons (fVar 3) fNil)))))
noncomputable def cf_law_swaps_1 : FE := (fTup (fCons (fVar 2) (fCons (fVar 3) fNil)))
noncomputable def ft_law_swaps_1 : FG := (tN 2)
noncomputable def fu_law_swaps_1 : FS := (sSet (fOp opAdd (fVar 1) (fLc (iRg2 (fCons (fOp opAdd (fVar 2) (fC (.int 2))) (fCons (fCl clLen (fCons (fVar 0) fNil)) fNil))) ct_law_swaps_1 cc_law_swaps_1 cf_law_swaps_1 [3])) (tN 1))
noncomputable def b_law_swaps : FS :=
  (sSq (sSet (fLst fNil) (tN 1))
  (sSq (sFr (iRg1 (fCons (fCl clLen (fCons (fVar 0) fNil)) fNil)) ft_law_swaps_1 fu_law_swaps_1)
  (sRt (fVar 1))))
noncomputable def fn_law_swaps : Fn := mkFn 4 b_law_swaps
def exchAt (ns : List Int) (i : Nat) : List (Nat × Nat) := ((List.range' (i + 2) (ns.length - (i + 2))).filter (seesN ns i)).map (fun j => (i, j))
theorem flat_congr {α β : Type} {f g : α → List β} : ∀ {l : List α}, (∀ a ∈ l, f a = g a) → l.flatMap f = l.flatMap g
  | [], _ => rfl
  | a :: l, h => by
    rw [List.flatMap_cons, List.flatMap_cons, h a (by simp), flat_congr fun b hb => h b (by simp [hb])]
theorem exch_flat (ns : List Int) : exchM ns = (List.range ns.length).flatMap (exchAt ns) := by
  unfold exchM sightsM
  rw [List.filter_flatMap]
  refine flat_congr fun i hi => ?_
  have hi := List.mem_range.mp hi
  unfold sightsAt exchAt
  rw [List.filter_map, List.filter_filter]
  have e : ∀ l : List Nat, (∀ j ∈ l, i + 1 < j) → l.filter (fun a => ((fun p : Nat × Nat => decide (p.1 + 1 < p.2)) ∘ fun j => (i, j)) a && seesN ns i a) = l.filter (seesN ns i) := fun l hl => List.filter_congr fun j hj => by
    have := hl j hj
    simp [this]
  by_cases h : i + 1 < ns.length
  · rw [show ns.length - (i + 1) = (ns.length - (i + 2)) + 1 by omega, List.range'_succ, List.filter_cons_of_neg (by simp), e _ fun j hj => by have := List.mem_range'_1.mp hj; omega]
  · rw [show ns.length - (i + 1) = 0 by omega, show ns.length - (i + 2) = 0 by omega]
    rfl
theorem exchAt_len (ns : List Int) (i : Nat) : (exchAt ns i).length ≤ ns.length := by
  unfold exchAt
  rw [List.length_map]
  have := List.length_filter_le (seesN ns i) (List.range' (i + 2) (ns.length - (i + 2)))
  rw [List.length_range'] at this
  omega
theorem exchF_len (ns : List Int) : ∀ i, ((List.range i).flatMap (exchAt ns)).length ≤ i * ns.length
  | 0 => by simp
  | i + 1 => by
    have := exchF_len ns i
    have h2 := exchAt_len ns i
    rw [List.range_succ, List.flatMap_append, List.length_append, Nat.add_mul]
    simp only [List.flatMap_cons, List.flatMap_nil, List.append_nil, Nat.one_mul]
    omega
theorem swaps_ok {ns : List Int} {x : PyData} (hx : Sq x (zD ns)) (hl : ns.length < 100) : fn_law_swaps [.d x] [] = .ok (.dat (.list (psD (exI ns)))) [] := by
  have hr : rOk ((ns.length : Nat) : Int) = true := rOk_of (by omega) (by omega)
  obtain ⟨g', e, a, b, rfl⟩ := forGo_inv (emb := fun (i : Nat) => PyData.int (i : Int)) (t := ft_law_swaps_1) (u := fu_law_swaps_1) (xs := List.range ns.length) (g := ⟨[some (.d x), some (.d (.list [])), none, none], []⟩)
    (fun i g => ∃ a b, g = ⟨[some (.d x), some (.d (.list (psD (((List.range i).flatMap (exchAt ns)).map castP)))), a, b], []⟩) ⟨none, none, rfl⟩ (fun k z g hz hI => by
      obtain ⟨a, b, rfl⟩ := hI
      have hi : k < ns.length := by
        have := (List.getElem?_eq_some_iff.mp hz).1
        simpa using this
      have ez : z = k := by
        have := (List.getElem?_eq_some_iff.mp hz).2
        simpa using this.symm
      subst ez
      have hz1 : ((z : Nat) : Int) + 2 = ((z + 2 : Nat) : Int) := by omega
      have ht : (((ns.length : Nat) : Int) - ((z + 2 : Nat) : Int)).toNat = ns.length - (z + 2) := by omega
      have er := rngN (z + 2) (ns.length - (z + 2))
      have hr2 : rOk ((z + 2 : Nat) : Int) = true := rOk_of (by omega) (by omega)
      have step := lcGo_pure (emb := fun (j : Nat) => PyData.int (j : Int)) (t := ct_law_swaps_1) (c := cc_law_swaps_1) (f := cf_law_swaps_1) (sl := [some (.d x), some (.d (.list (psD (((List.range z).flatMap (exchAt ns)).map castP)))), some (.d (.int z)), b]) (ws := [3]) (ce := []) (seesN ns z) (fun j => pD (castP (z, j))) (List.range' (z + 2) (ns.length - (z + 2))) [] (by simp; omega) (fun q hq => by
        have hq := List.mem_range'_1.mp hq
        have r := lsees_ok (i := z) (j := q) hx (by omega) (by omega) (by omega)
        cases hs : seesN ns z q <;> rw [hs] at r <;> simp! [lcSt, ct_law_swaps_1, cc_law_swaps_1, cf_law_swaps_1, call_of r, castP, pD])
      have e2 : ((List.range' (z + 2) (ns.length - (z + 2))).filter (seesN ns z)).map (fun j => pD (castP (z, j))) = psD ((exchAt ns z).map castP) := by
        unfold exchAt psD
        rw [List.map_map, List.map_map]
        rfl
      rw [List.nil_append, e2] at step
      have l1 := exchF_len ns z
      have l2 := exchAt_len ns z
      have hm : z * ns.length ≤ 100 * 100 := Nat.mul_le_mul (by omega) (by omega)
      refine ⟨⟨[some (.d x), some (.d (.list (psD (((List.range (z + 1)).flatMap (exchAt ns)).map castP)))), some (.d (.int z)), b], []⟩, .inl ?_, _, _, rfl⟩
      have e3 : psD (((List.range (z + 1)).flatMap (exchAt ns)).map castP) = psD (((List.range z).flatMap (exchAt ns)).map castP) ++ psD ((exchAt ns z).map castP) := by
        rw [List.range_succ, List.flatMap_append, List.map_append]
        unfold psD
        rw [List.map_append]
        simp
      rw [e3]
      have lim : ((List.range z).flatMap (exchAt ns)).length + (exchAt ns z).length ≤ 100000 := by omega
      rcases hx with rfl | rfl <;> simp! [ft_law_swaps_1, fu_law_swaps_1, hz1, ht, hr, hr2, er, step, cat2, lim])
  rw [List.length_range, ← rng0] at e
  rw [show exI ns = ((List.range ns.length).flatMap (exchAt ns)).map castP by show List.map castP (exchM ns) = _; rw [exch_flat]]
  rcases hx with rfl | rfl <;> simp! [fn_law_swaps, b_law_swaps, hr, Int.toNat_natCast, e, Nat.zero_le]
noncomputable def b_law_turned : FS :=
  (sSq (sSet (fVar 1) (tTupA 2 (tCons (tN 2) (tCons (tN 3) tNil))))
  (sRt (fOp opAdd (fOp opAdd (fOp opAdd (fOp opAdd (fSl (fVar 0) fNoP (fPart (fVar 2))) (fTup (fCons (fOp opIx (fVar 0) (fVar 3)) fNil))) (fSl (fVar 0) (fPart (fOp opAdd (fVar 2) (fC (.int 1)))) (fPart (fVar 3)))) (fTup (fCons (fOp opIx (fVar 0) (fVar 2)) fNil))) (fSl (fVar 0) (fPart (fOp opAdd (fVar 3) (fC (.int 1)))) fNoP))))
noncomputable def fn_law_turned : Fn := mkFn 4 b_law_turned
theorem turned_ok {ns : List Int} {i j : Nat} (hl : ns.length < 1000) (h1 : i < j) (h2 : j < ns.length) : fn_law_turned [.d (.tuple (zD ns)), .d (pD (castP (i, j)))] [] = .ok (.dat (.tuple (zD (swapM ns i j)))) [] := by
  have a1 := at_getD (ns := ns) (i := i) (by omega)
  have a2 := at_getD h2
  have c1 : cut (zD ns) none (some ((i : Nat) : Int)) = zD (ns.take i) := by rw [cut_map, cut_to]
  have c2 : cut (zD ns) (some (((i : Nat) : Int) + 1)) (some ((j : Nat) : Int)) = zD (betw ns i j) := by rw [cut_map, cut_betw h1 h2]
  have c3 : cut (zD ns) (some (((j : Nat) : Int) + 1)) none = zD (ns.drop (j + 1)) := by rw [cut_map, show ((j : Int) + 1) = ((j + 1 : Nat) : Int) by omega, cut_from]
  have lb : (betw ns i j).length ≤ ns.length := by unfold betw; rw [List.length_take, List.length_drop]; omega
  have lt : (ns.take i).length ≤ ns.length := by rw [List.length_take]; omega
  have ld : (ns.drop (j + 1)).length ≤ ns.length := by rw [List.length_drop]; omega
  have es : zD (swapM ns i j) = zD (ns.take i) ++ [.int (ns.getD j 0)] ++ zD (betw ns i j) ++ [.int (ns.getD i 0)] ++ zD (ns.drop (j + 1)) := by
    unfold swapM zD
    simp only [List.map_append, List.map_cons, List.map_nil]
  rw [pcast, es]
  revert c1 c2 c3 lb lt ld
  generalize ns.take i = T
  generalize betw ns i j = M
  generalize ns.drop (j + 1) = D
  intro c1 c2 c3 lb lt ld
  simp! [fn_law_turned, b_law_turned, a1, a2, c1, c2, c3, List.length_append, show T.length + 1 ≤ 100000 by omega, show T.length + 1 + M.length ≤ 100000 by omega, show T.length + 1 + M.length + 1 ≤ 100000 by omega, show T.length + 1 + M.length + 1 + D.length ≤ 100000 by omega, Bool.false_eq_true]
end DL
set_option Elab.async false
set_option linter.all false
set_option maxRecDepth 100000
set_option autoImplicit false
namespace DL
def sc (b : Int) (ks : List Int) : List Int := ks.map (· * b)
end DL
set_option Elab.async false
set_option linter.all false
set_option maxRecDepth 100000
set_option maxHeartbeats 1000000
set_option autoImplicit false
namespace DL
open PySem PySem.Spec PyProof.Rows L2
def pL (p : Int × Int) : PyData := .list [.int p.1, .int p.2]
def swapZ (ns : List Int) (p : Int × Int) : List Int := swapM ns p.1.toNat p.2.toNat
theorem exI_mem {ns : List Int} {i j : Int} : (i, j) ∈ exI ns ↔ 0 ≤ i ∧ i + 1 < j ∧ j < (ns.length : Nat) ∧ seesN ns i.toNat j.toNat = true := by
  show (i, j) ∈ (exchM ns).map castP ↔ _
  rw [List.mem_map]
  constructor
  · rintro ⟨⟨a, b⟩, h, e⟩
    cases e
    obtain ⟨h1, h2, h3⟩ := exch_mem.mp h
    exact ⟨by omega, by omega, by omega, h3⟩
  · rintro ⟨h1, h2, h3, h4⟩
    refine ⟨(i.toNat, j.toNat), exch_mem.mpr ⟨by omega, by omega, h4⟩, ?_⟩
    show ((i.toNat : Int), (j.toNat : Int)) = (i, j)
    rw [Int.toNat_of_nonneg h1, Int.toNat_of_nonneg (by omega)]
theorem exI_nat {ns : List Int} {p : Int × Int} (h : p ∈ exI ns) : ∃ i j : Nat, p = castP (i, j) ∧ (i, j) ∈ exchM ns ∧ swapZ ns p = swapM ns i j := by
  obtain ⟨⟨a, b⟩, h2, e⟩ := List.mem_map.mp (show p ∈ (exchM ns).map castP from h)
  refine ⟨a, b, e.symm, h2, ?_⟩
  rw [← e]
  rfl
def blkX (p : Int × Int) : Xn := ⟨"Blocked", [("pair", .tuple [.int p.1, .int p.2])]⟩
abbrev Sm (p : Int × Int) : Prop := p.1.natAbs < 2 ^ 1000 ∧ p.2.natAbs < 2 ^ 1000
theorem look_ok {ns : List Int} {x q : PyData} {p : Int × Int} (hx : Sq x (zD ns)) (hl : ns.length < 1000) (hq : Sq q [.int p.1, .int p.2]) (h : p ∈ exI ns) : fn_look_exchange [.d x, .d q] [] = .ok (.dat .none) [] := by
  obtain ⟨i, j, rfl, hm, _⟩ := exI_nat h
  rcases hq with rfl | rfl
  · obtain ⟨h1, h2, h3⟩ := exch_mem.mp hm
    have r := sees_at_ok (i := i) (j := j) hx hl (by omega) h2
    rw [h3] at r
    rcases hx with rfl | rfl <;> simp! [castP, fn_look_exchange, b_look_exchange, call_of r, show (0 : Int) ≤ (i : Int) by omega, show (i : Int) < (j : Int) - 1 by omega, show (j : Int) < ((ns.length : Nat) : Int) by omega]
  · exact look_exchange_ok hx hl hm
theorem look_no {ns : List Int} {x q : PyData} {p : Int × Int} (hx : Sq x (zD ns)) (hl : ns.length < 1000) (hq : Sq q [.int p.1, .int p.2]) (h : p ∉ exI ns) (hb : Sm p) : fn_look_exchange [.d x, .d q] [] = .ex (blkX p) [] := by
  obtain ⟨i, j⟩ := p
  have sh := shows_pD hb.1 hb.2
  simp only at hq sh
  unfold blkX
  rw [exI_mem] at h
  by_cases c1 : 0 ≤ i
  · by_cases c2 : i < j - 1
    · by_cases c3 : j < ((ns.length : Nat) : Int)
      · have hs : seesN ns i.toNat j.toNat = false := by
          cases hs : seesN ns i.toNat j.toNat with
          | false => rfl
          | true => exact absurd ⟨c1, by omega, c3, hs⟩ h
        have r := sees_at_ok (i := i.toNat) (j := j.toNat) hx hl (by omega) (by omega)
        rw [hs, Int.toNat_of_nonneg c1, Int.toNat_of_nonneg (show 0 ≤ j by omega)] at r
        rcases hx with rfl | rfl <;> rcases hq with rfl | rfl <;> simp! [fn_look_exchange, b_look_exchange, call_of r, c1, c2, c3, sh]
      · rcases hx with rfl | rfl <;> rcases hq with rfl | rfl <;> simp! [fn_look_exchange, b_look_exchange, c1, c2, c3, sh]
    · rcases hx with rfl | rfl <;> rcases hq with rfl | rfl <;> simp! [fn_look_exchange, b_look_exchange, c1, c2, sh]
  · rcases hx with rfl | rfl <;> rcases hq with rfl | rfl <;> simp! [fn_look_exchange, b_look_exchange, c1, sh]
theorem swapped_l {ns : List Int} {x : PyData} {i j : Nat} (hx : Sq x (zD ns)) (hl : ns.length < 1000) (h1 : i < j) (h2 : j < ns.length) : fn_swapped [.d x, .d (pL (castP (i, j)))] [] = .ok (.dat (.tuple (zD (swapM ns i j)))) [] := by
  have a1 := at_getD (ns := ns) (i := i) (by omega)
  have a2 := at_getD h2
  have c1 : cut (zD ns) none (some ((i : Nat) : Int)) = zD (ns.take i) := by rw [cut_map, cut_to]
  have c2 : cut (zD ns) (some (((i : Nat) : Int) + 1)) (some ((j : Nat) : Int)) = zD (betw ns i j) := by rw [cut_map, cut_betw h1 h2]
  have c3 : cut (zD ns) (some (((j : Nat) : Int) + 1)) none = zD (ns.drop (j + 1)) := by rw [cut_map, show ((j : Int) + 1) = ((j + 1 : Nat) : Int) by omega, cut_from]
  have lb : (betw ns i j).length ≤ ns.length := by unfold betw; rw [List.length_take, List.length_drop]; omega
  have lt : (ns.take i).length ≤ ns.length := by rw [List.length_take]; omega
  have ld : (ns.drop (j + 1)).length ≤ ns.length := by rw [List.length_drop]; omega
  have es : zD (swapM ns i j) = zD (ns.take i) ++ [.int (ns.getD j 0)] ++ zD (betw ns i j) ++ [.int (ns.getD i 0)] ++ zD (ns.drop (j + 1)) := by
    unfold swapM zD
    simp only [List.map_append, List.map_cons, List.map_nil]
  rw [show pL (castP (i, j)) = .list [.int (i : Int), .int (j : Int)] from rfl, es]
  revert c1 c2 c3 lb lt ld
  generalize ns.take i = T
  generalize betw ns i j = M
  generalize ns.drop (j + 1) = D
  intro c1 c2 c3 lb lt ld
  rcases hx with rfl | rfl <;> simp! [fn_swapped, b_swapped, a1, a2, c1, c2, c3, List.length_append, show T.length + 1 ≤ 100000 by omega, show T.length + 1 + M.length ≤ 100000 by omega, show T.length + 1 + M.length + 1 ≤ 100000 by omega, show T.length + 1 + M.length + 1 + D.length ≤ 100000 by omega, Bool.false_eq_true]
theorem exch_ok {ns : List Int} {x q : PyData} {p : Int × Int} (hx : Sq x (zD ns)) (hl : ns.length < 1000) (hq : Sq q [.int p.1, .int p.2]) (h : p ∈ exI ns) : fn_exchanged [.d x, .d q] [] = .ok (.dat (.tuple (zD (swapZ ns p)))) [] := by
  have r1 := look_ok hx hl hq h
  obtain ⟨i, j, rfl, hm, e⟩ := exI_nat h
  obtain ⟨h1, h2, h3⟩ := exch_mem.mp hm
  rw [e]
  rcases hq with rfl | rfl
  · have r2 := swapped_l (i := i) (j := j) hx hl (by omega) h2
    have r2 : fn_swapped [.d x, .d (.list [.int (castP (i, j)).1, .int (castP (i, j)).2])] [] = .ok (.dat (.tuple (zD (swapM ns i j)))) [] := r2
    simp! [fn_exchanged, b_exchanged, call_of r1, call_of r2]
  · exact exchanged_ok hx hl hm
theorem exch_no {ns : List Int} {x q : PyData} {p : Int × Int} (hx : Sq x (zD ns)) (hl : ns.length < 1000) (hq : Sq q [.int p.1, .int p.2]) (h : p ∉ exI ns) (hb : Sm p) : fn_exchanged [.d x, .d q] [] = .ex (blkX p) [] := by
  have r1 := look_no hx hl hq h hb
  simp! [fn_exchanged, b_exchanged, callX_of r1]
theorem swapZ_mate {ns : List Int} {p : Int × Int} (nd : ns.Nodup) (h : p ∈ exI ns) : Mate ns (swapZ ns p) := by
  obtain ⟨i, j, rfl, hm, e⟩ := exI_nat h
  rw [e]
  exact (exch_does nd hm).mate
end DL
set_option Elab.async false
set_option linter.all false
set_option maxRecDepth 100000
set_option maxHeartbeats 1000000
set_option autoImplicit false
namespace DL
open PySem PySem.Spec PyProof.Rows L2
noncomputable def b_place_of : FS :=
  (sSq (sIte (fTst (fOp opNotIn (fVar 1) (fVar 0))) (sRaise1 "NoPerson" "height" (fCons (fVar 1) fNil)) sNx)
  (sRt (fMt mtIndex (fCl clList (fCons (fVar 0) fNil)) (fCons (fVar 1) fNil))))
noncomputable def fn_place_of : Fn := mkFn 2 b_place_of
theorem inB_sq {ns : List Int} {x : PyData} {h : Int} (hx : Sq x (zD ns)) (g : G) : inB g (.d (.int h)) (.d x) = some (decide (h ∈ ns)) := by
  rcases hx with rfl | rfl
  · simp only [inB, dictAt, datOf, any_zD, shaped_zL, shaped_int, Bool.and_self, if_true]
  · simp only [inB, dictAt, datOf, seqOf, asInts_map, Option.map_some]
theorem place_of_ok {ns : List Int} {x : PyData} {h : Int} (hx : Sq x (zD ns)) (hm : h ∈ ns) : fn_place_of [.d x, .d (.int h)] [] = .ok (.dat (.int (ns.idxOf h : Nat))) [] := by
  have ei : ∀ g, inB g (.d (.int h)) (.d x) = some true := fun g => by rw [inB_sq hx, decide_eq_true hm]
  rcases hx with rfl | rfl <;> simp! [fn_place_of, b_place_of, ei, index_int hm]
theorem place_of_no {ns : List Int} {x : PyData} {h : Int} (hx : Sq x (zD ns)) (hm : h ∉ ns) (hb : h.natAbs < 2 ^ 1000) : fn_place_of [.d x, .d (.int h)] [] = .ex ⟨"NoPerson", [("height", .int h)]⟩ [] := by
  have ei : ∀ g, inB g (.d (.int h)) (.d x) = some false := fun g => by rw [inB_sq hx, decide_eq_false hm]
  have sh := shows_int hb
  rcases hx with rfl | rfl <;> simp! [fn_place_of, b_place_of, ei, sh]
end DL
set_option Elab.async false
set_option linter.all false
set_option maxRecDepth 100000
set_option maxHeartbeats 1000000
set_option autoImplicit false
namespace DL
open PySem PySem.Spec PyProof.Rows L2
noncomputable def ct_law_same_1 (rec : Fn) : FG := (tTupA 2 (tCons (tN 2) (tCons (tN 3) tNil)))
noncomputable def cc_law_same_1 (rec : Fn) : FT := fYes
noncomputable def cf_law_same_1 (rec : Fn) : FE := (fCall rec false (fCons (fVar 2) (fCons (fVar 3) fNil)))
noncomputable def b_law_same (rec : Fn) : FS :=
  (sSq (sIte (fTst (fIsi2 "list" "tuple" (fVar 1))) (sSq (sIte (fOrT (fTst (fOp opNe (fIsi "list" (fVar 0)) (fIsi "list" (fVar 1)))) (fTst (fOp opNe (fIsi "tuple" (fVar 0)) (fIsi "tuple" (fVar 1))))) (sRt (fC (.bool false))) sNx)
    (sRt (fAnd (fOp opEq (fCl clLen (fCons (fVar 0) fNil)) (fCl clLen (fCons (fVar 1) fNil))) (fCl clAll (fCons (fLc (iZ2 (fCons (fVar 0) (fCons (fVar 1) fNil))) (ct_law_same_1 rec) (cc_law_same_1 rec) (cf_law_same_1 rec) [2, 3]) fNil))))) sNx)
  (sSq (sIte (fOrT (fTst (fOp opIsN (fVar 1) (fC .none))) (fTst (fIsi2 "bool" "str" (fVar 1)))) (sRt (fAnd (fOp opEq (fVar 0) (fVar 1)) (fAnd (fOp opEq (fIsi "bool" (fVar 0)) (fIsi "bool" (fVar 1))) (fOp opEq (fOp opIsN (fVar 0) (fC .none)) (fOp opIsN (fVar 1) (fC .none)))))) sNx)
  (sRt (fAnd (fIsi "int" (fVar 0)) (fAnd (fNot (fIsi "bool" (fVar 0))) (fOp opEq (fVar 0) (fVar 1)))))))
noncomputable def fn_law_same : Nat → Fn
  | 0 => fun _ _ => .no
  | n + 1 => mkFn 4 (b_law_same (fn_law_same n))
def okD : Nat → PyData → Bool
  | n + 1, .int _ => true
  | n + 1, .bool _ => true
  | n + 1, .none => true
  | n + 1, .str s => PyData.strOk s
  | n + 1, .list ds => decide (ds.length < 1000) && ds.all (okD n)
  | n + 1, .tuple ds => decide (ds.length < 1000) && ds.all (okD n)
  | _, _ => false
theorem sh_bool (b : Bool) : SeqAt.shaped (.bool b) = true := by cases b <;> decide
theorem sh_none : SeqAt.shaped .none = true := by decide
theorem eqv_bb (a b : Bool) : PyData.eqv (.bool a) (.bool b) = decide (a = b) := by cases a <;> cases b <;> rfl
theorem sh_str {s : Str} (h : PyData.strOk s = true) : SeqAt.shaped (.str s) = true := by simp [SeqAt.shaped, PyData.canLay0, PyData.depth, h]
theorem eqv_ss (s : Str) : PyData.eqv (.str s) (.str s) = true := by simp [PyData.eqv]
theorem eqv_nn : PyData.eqv .none .none = true := by rfl
theorem zip2_self (ds : List PyData) : zip2 ds ds = ds.map (fun d => PyData.tuple [d, d]) := by
  have := zip2_map (fun d : PyData => d) (fun d : PyData => d) ds ds
  simp only [List.map_id'] at this
  rw [this]
  induction ds with
  | nil => rfl
  | cons d ds ih => rw [List.zip_cons_cons, List.map_cons, List.map_cons]; congr 1; exact ih (by simpa using zip2_map (fun d : PyData => d) (fun d : PyData => d) ds ds)
theorem same_ok : ∀ (n : Nat) (x : PyData), okD n x = true → fn_law_same n [.d x, .d x] [] = .ok (.dat (.bool true)) []
  | 0, x, h => by cases h
  | n + 1, x, h => by
    have gen : ∀ (ds : List PyData) (y : PyData), (decide (ds.length < 1000) && ds.all (okD n)) = true → lcGo (ct_law_same_1 (fn_law_same n)) (cc_law_same_1 (fn_law_same n)) (cf_law_same_1 (fn_law_same n)) [some (.d y), some (.d y), none, none] [2, 3] (zip2 ds ds) [] [] = .ok ((List.replicate ds.length true).map PyData.bool) ⟨[some (.d y), some (.d y), none, none], []⟩ := fun ds y hd => by
      simp only [Bool.and_eq_true, decide_eq_true_eq, List.all_eq_true] at hd
      have s := lcGo_map (emb := fun d => PyData.tuple [d, d]) (t := ct_law_same_1 (fn_law_same n)) (c := cc_law_same_1 (fn_law_same n)) (f := cf_law_same_1 (fn_law_same n)) (sl := [some (.d y), some (.d y), none, none]) (ws := [2, 3]) (ce := []) (fun _ => .bool true) (xs := ds) (by omega) (fun d hm => by
        have r := same_ok n d (hd.2 d hm)
        simp! [lcSt, ct_law_same_1, cc_law_same_1, cf_law_same_1, call_of r])
      rw [zip2_self, s, List.map_replicate, List.map_const']
    have ea : ∀ k : Nat, (List.replicate k true).all id = true := fun k => by rw [List.all_eq_true]; intro z hz; exact (List.mem_replicate.mp hz).2
    cases x with
    | int i => simp! only [fn_law_same, b_law_same, Bool.or_false, Bool.or_true]
    | bool b => simp! only [fn_law_same, b_law_same, sh_bool, eqv_bb, Bool.or_false, Bool.or_true, Bool.true_or, Bool.false_or]
    | none => simp! only [fn_law_same, b_law_same, sh_bool, sh_none, eqv_nn, eqv_bb, Bool.or_false, Bool.or_true, Bool.true_or, Bool.false_or]
    | str z => simp! only [fn_law_same, b_law_same, sh_bool, sh_str (show PyData.strOk z = true from h), eqv_ss, eqv_bb, Bool.or_false, Bool.or_true, Bool.true_or, Bool.false_or]
    | list ds => simp! only [fn_law_same, b_law_same, sh_bool, eqv_bb, gen ds _ h, ea, Bool.or_false, Bool.or_true, Bool.true_or, Bool.false_or]
    | tuple ds => simp! only [fn_law_same, b_law_same, sh_bool, eqv_bb, gen ds _ h, ea, Bool.or_false, Bool.or_true, Bool.true_or, Bool.false_or]
    | _ => cases h
end DL
set_option Elab.async false
set_option linter.all false
set_option maxRecDepth 100000
set_option maxHeartbeats 1000000
set_option autoImplicit false
namespace DL
open PySem PySem.Spec PyProof.Rows L2
theorem ixL0 (i : Nat) (is : List Nat) : atI (i :: is) 0 = some i := by rw [atI_0]; rfl
theorem okp (L : List (Int × Int)) (h : L.length < 1000) : okD 3 (.list (psD L)) = true := by
  show (decide ((psD L).length < 1000) && (psD L).all (okD 2)) = true
  rw [List.length_map, decide_eq_true h, Bool.true_and, List.all_map, List.all_eq_true]
  intro p _
  rfl
theorem okzT (L : List Int) (h : L.length < 1000) : okD 3 (.tuple (zD L)) = true := by
  show (decide ((zD L).length < 1000) && (zD L).all (okD 2)) = true
  rw [List.length_map, decide_eq_true h, Bool.true_and, List.all_map, List.all_eq_true]
  intro p _
  rfl
theorem ok_str {s : Str} {h : Int} (hs : PyData.strOk s = true) : okD 3 (.tuple [.str s, .int h]) = true := by
  show (decide (2 < 1000) && (PyData.strOk s && (true && true))) = true
  rw [hs]
  rfl
theorem ok_two {d e : PyData} (h : okD 3 d = true) (h2 : okD 3 e = true) : okD 4 (.list [d, e]) = true := by
  show (decide (2 < 1000) && (okD 3 d && (okD 3 e && true))) = true
  rw [h, h2]; rfl
end DL
set_option Elab.async false
set_option linter.all false
set_option maxRecDepth 100000
set_option maxHeartbeats 1000000
set_option autoImplicit false
namespace DL
open PySem PySem.Spec PyProof.Rows L2
noncomputable def tb_law_told_1 : Str → Option Bool := tbl [("Blocked", true), ("NoPerson", true)]
noncomputable def ki_law_told_1 : Str → Option Bool := tbl [("Blocked", false), ("NoPerson", true)]
noncomputable def ki_law_told_2 : Str → Option Bool := tbl [("Blocked", true), ("NoPerson", false)]
noncomputable def ki_law_told_3 : Str → Option Bool := tbl [("Blocked", true), ("NoPerson", false)]
noncomputable def ca_law_told_1 : List Str := ["Blocked"]
theorem tb_law_told_1_Blocked : tb_law_told_1 "Blocked" = some true := by decide +kernel
theorem tb_law_told_1_NoPerson : tb_law_told_1 "NoPerson" = some true := by decide +kernel
theorem ki_law_told_1_Blocked : ki_law_told_1 "Blocked" = some false := by decide +kernel
theorem ki_law_told_1_NoPerson : ki_law_told_1 "NoPerson" = some true := by decide +kernel
theorem ki_law_told_2_Blocked : ki_law_told_2 "Blocked" = some true := by decide +kernel
theorem ki_law_told_2_NoPerson : ki_law_told_2 "NoPerson" = some false := by decide +kernel
theorem ki_law_told_3_Blocked : ki_law_told_3 "Blocked" = some true := by decide +kernel
theorem ki_law_told_3_NoPerson : ki_law_told_3 "NoPerson" = some false := by decide +kernel
theorem ca_law_told_1_Blocked : (ca_law_told_1).contains "Blocked" = true := by decide +kernel
noncomputable def b_law_told : FS :=
  (sSq (sSet (fTup (fCons (fC .none) (fCons (fC .none) fNil))) (tTupA 2 (tCons (tN 2) (tCons (tN 3) tNil))))
  (sSq (sTry tb_law_told_1 4 3 (sSet (fCall fn_exchanged false (fPerm [1, 0] (fCons (fVar 1) (fCons (fVar 0) fNil)))) (tN 2)))
  (sSq (sIte (fTst (fOp opIsN (fVar 3) (fC .none))) (sRt (fVar 2)) sNx)
  (sSq (sSet (fAnd (fIsX ki_law_told_2 (some false) (fVar 3)) (fNot (fIsX ki_law_told_1 (some false) (fVar 3)))) (tN 5))
  (sRt (fIf (fAndT (fTst (fVar 5)) (fTst (fIsX ki_law_told_3 (some false) (fVar 3)))) (fTup (fCons (fC (.str "Blocked")) (fCons (fAttr ca_law_told_1 "pair" (fVar 3)) fNil))) (fC (.str "other"))))))))
noncomputable def fn_law_told : Fn := mkFn 6 b_law_told
def blkD (p : Int × Int) : PyData := .tuple [.str "Blocked", .tuple [.int p.1, .int p.2]]
theorem told3_ok {ns : List Int} {x q : PyData} {p : Int × Int} (hx : Sq x (zD ns)) (hl : ns.length < 1000) (hq : Sq q [.int p.1, .int p.2]) (h : p ∈ exI ns) : fn_law_told [.d x, .d q] [] = .ok (.dat (.tuple (zD (swapZ ns p)))) [] := by
  have r := exch_ok hx hl hq h
  simp! only [tb_law_told_1_Blocked, tb_law_told_1_NoPerson, ki_law_told_1_Blocked, ki_law_told_1_NoPerson, ki_law_told_2_Blocked, ki_law_told_2_NoPerson, ki_law_told_3_Blocked, ki_law_told_3_NoPerson, ca_law_told_1_Blocked, fn_law_told, b_law_told, call_of r]
theorem told3_no {ns : List Int} {x q : PyData} {p : Int × Int} (hx : Sq x (zD ns)) (hl : ns.length < 1000) (hq : Sq q [.int p.1, .int p.2]) (h : p ∉ exI ns) (hb : Sm p) : fn_law_told [.d x, .d q] [] = .ok (.dat (blkD p)) [] := by
  have r := exch_no hx hl hq h hb
  simp! only [tb_law_told_1_Blocked, tb_law_told_1_NoPerson, ki_law_told_1_Blocked, ki_law_told_1_NoPerson, ki_law_told_2_Blocked, ki_law_told_2_NoPerson, ki_law_told_3_Blocked, ki_law_told_3_NoPerson, ca_law_told_1_Blocked, fn_law_told, b_law_told, callX_of r, blkX, blkD]
noncomputable def b_sees : FS :=
  (sSq (sSet (fLst (fCons (fCall fn_place_of false (fCons (fVar 0) (fCons (fVar 1) fNil))) (fCons (fCall fn_place_of false (fCons (fVar 0) (fCons (fVar 2) fNil))) fNil))) (tN 3))
  (sRt (fCall fn_sees_at true (fCons (fVar 0) (fCons (fCl clMinL (fCons (fVar 3) fNil)) (fCons (fCl clMaxL (fCons (fVar 3) fNil)) fNil))))))
noncomputable def fn_sees : Fn := mkFn 4 b_sees
theorem minL_two {g : G} (i j : Nat) : clMinL g [.d (.list [.int (i : Int), .int (j : Int)])] = some (.d (.int (min i j : Nat))) := by
  have h : clMinL g [.d (.list [.int (i : Int), .int (j : Int)])] = some (.d (.int (minL [(i : Int), (j : Int)]))) := clMinL_of (ns := [(i : Int), (j : Int)]) (by simp)
  rw [h]
  have e : minL [(i : Int), (j : Int)] = ((min i j : Nat) : Int) := by
    show (if (i : Int) < (j : Int) then (i : Int) else (j : Int)) = _
    split <;> omega
  rw [e]
theorem maxL_two {g : G} (i j : Nat) : clMaxL g [.d (.list [.int (i : Int), .int (j : Int)])] = some (.d (.int (max i j : Nat))) := by
  have h : clMaxL g [.d (.list [.int (i : Int), .int (j : Int)])] = some (.d (.int (maxL [(i : Int), (j : Int)]))) := clMaxL_of (ns := [(i : Int), (j : Int)]) (by simp)
  rw [h]
  have m := maxL_spec (l := [(i : Int), (j : Int)]) (by simp)
  have m1 := m.2 (i : Int) (by simp)
  have m2 := m.2 (j : Int) (by simp)
  have m3 := m.1
  simp only [List.mem_cons, List.not_mem_nil, or_false] at m3
  have e : maxL [(i : Int), (j : Int)] = ((max i j : Nat) : Int) := by
    rcases m3 with z | z <;> rw [z] at m1 m2 ⊢ <;> omega
  rw [e]
theorem sees_ok {ns : List Int} {x : PyData} {a b : Int} (hx : Sq x (zD ns)) (hl : ns.length < 1000) (ha : a ∈ ns) (hb : b ∈ ns) (hab : a ≠ b) : fn_sees [.d x, .d (.int a), .d (.int b)] [] = .ok (.dat (.bool (seesN ns (min (ns.idxOf a) (ns.idxOf b)) (max (ns.idxOf a) (ns.idxOf b))))) [] := by
  have r1 := place_of_ok hx ha
  have r2 := place_of_ok hx hb
  have hi : ns.idxOf a < ns.length := List.idxOf_lt_length_iff.mpr ha
  have hj : ns.idxOf b < ns.length := List.idxOf_lt_length_iff.mpr hb
  have ne : ns.idxOf a ≠ ns.idxOf b := fun z => hab (by
    have e1 := List.getElem_idxOf hi
    have e2 := List.getElem_idxOf hj
    rw [← e1, ← e2]
    congr 1)
  have r3 := sees_at_ok (i := min (ns.idxOf a) (ns.idxOf b)) (j := max (ns.idxOf a) (ns.idxOf b)) hx hl (by omega) (by omega)
  simp! [fn_sees, b_sees, call_of r1, call_of r2, minL_two, maxL_two, call_of r3]
theorem sees_no1 {ns : List Int} {x : PyData} {a b : Int} (hx : Sq x (zD ns)) (ha : a ∉ ns) (hb : a.natAbs < 2 ^ 1000) : fn_sees [.d x, .d (.int a), .d (.int b)] [] = .ex ⟨"NoPerson", [("height", .int a)]⟩ [] := by
  have r1 := place_of_no hx ha hb
  simp! [fn_sees, b_sees, callX_of r1]
theorem sees_no2 {ns : List Int} {x : PyData} {a b : Int} (hx : Sq x (zD ns)) (ha : a ∈ ns) (hm : b ∉ ns) (hb : b.natAbs < 2 ^ 1000) : fn_sees [.d x, .d (.int a), .d (.int b)] [] = .ex ⟨"NoPerson", [("height", .int b)]⟩ [] := by
  have r1 := place_of_ok hx ha
  have r2 := place_of_no hx hm hb
  simp! [fn_sees, b_sees, call_of r1, callX_of r2]
noncomputable def tb_law_seen_1 : Str → Option Bool := tbl [("Blocked", true), ("NoPerson", true)]
noncomputable def ki_law_seen_1 : Str → Option Bool := tbl [("Blocked", true), ("NoPerson", false)]
noncomputable def ki_law_seen_2 : Str → Option Bool := tbl [("Blocked", false), ("NoPerson", true)]
noncomputable def ki_law_seen_3 : Str → Option Bool := tbl [("Blocked", false), ("NoPerson", true)]
noncomputable def ca_law_seen_1 : List Str := ["NoPerson"]
theorem tb_law_seen_1_Blocked : tb_law_seen_1 "Blocked" = some true := by decide +kernel
theorem tb_law_seen_1_NoPerson : tb_law_seen_1 "NoPerson" = some true := by decide +kernel
theorem ki_law_seen_1_Blocked : ki_law_seen_1 "Blocked" = some true := by decide +kernel
theorem ki_law_seen_1_NoPerson : ki_law_seen_1 "NoPerson" = some false := by decide +kernel
theorem ki_law_seen_2_Blocked : ki_law_seen_2 "Blocked" = some false := by decide +kernel
theorem ki_law_seen_2_NoPerson : ki_law_seen_2 "NoPerson" = some true := by decide +kernel
theorem ki_law_seen_3_Blocked : ki_law_seen_3 "Blocked" = some false := by decide +kernel
theorem ki_law_seen_3_NoPerson : ki_law_seen_3 "NoPerson" = some true := by decide +kernel
theorem ca_law_seen_1_NoPerson : (ca_law_seen_1).contains "NoPerson" = true := by decide +kernel
noncomputable def b_law_seen : FS :=
  (sSq (sSet (fTup (fCons (fC .none) (fCons (fC .none) fNil))) (tTupA 2 (tCons (tN 3) (tCons (tN 4) tNil))))
  (sSq (sTry tb_law_seen_1 5 4 (sSet (fCall fn_sees false (fPerm [2, 1, 0] (fCons (fVar 2) (fCons (fVar 1) (fCons (fVar 0) fNil))))) (tN 3)))
  (sSq (sIte (fTst (fOp opIsN (fVar 4) (fC .none))) (sRt (fVar 3)) sNx)
  (sSq (sSet (fAnd (fIsX ki_law_seen_2 (some false) (fVar 4)) (fNot (fIsX ki_law_seen_1 (some false) (fVar 4)))) (tN 6))
  (sRt (fIf (fAndT (fTst (fVar 6)) (fTst (fIsX ki_law_seen_3 (some false) (fVar 4)))) (fTup (fCons (fC (.str "NoPerson")) (fCons (fAttr ca_law_seen_1 "height" (fVar 4)) fNil))) (fC (.str "other"))))))))
noncomputable def fn_law_seen : Fn := mkFn 7 b_law_seen
def noP (h : Int) : PyData := .tuple [.str "NoPerson", .int h]
theorem seen3_ok {ns : List Int} {x : PyData} {a b : Int} (hx : Sq x (zD ns)) (hl : ns.length < 1000) (ha : a ∈ ns) (hb : b ∈ ns) (hab : a ≠ b) : fn_law_seen [.d x, .d (.int a), .d (.int b)] [] = .ok (.dat (.bool (seesN ns (min (ns.idxOf a) (ns.idxOf b)) (max (ns.idxOf a) (ns.idxOf b))))) [] := by
  have r := sees_ok hx hl ha hb hab
  simp! only [tb_law_seen_1_Blocked, tb_law_seen_1_NoPerson, ki_law_seen_1_Blocked, ki_law_seen_1_NoPerson, ki_law_seen_2_Blocked, ki_law_seen_2_NoPerson, ki_law_seen_3_Blocked, ki_law_seen_3_NoPerson, ca_law_seen_1_NoPerson, fn_law_seen, b_law_seen, call_of r]
theorem seen3_x {ns : List Int} {x : PyData} {a b h : Int} (r : fn_sees [.d x, .d (.int a), .d (.int b)] [] = .ex ⟨"NoPerson", [("height", .int h)]⟩ []) : fn_law_seen [.d x, .d (.int a), .d (.int b)] [] = .ok (.dat (noP h)) [] := by
  simp! only [tb_law_seen_1_Blocked, tb_law_seen_1_NoPerson, ki_law_seen_1_Blocked, ki_law_seen_1_NoPerson, ki_law_seen_2_Blocked, ki_law_seen_2_NoPerson, ki_law_seen_3_Blocked, ki_law_seen_3_NoPerson, ca_law_seen_1_NoPerson, fn_law_seen, b_law_seen, callX_of r, noP]
noncomputable def ct_law_sight_right_1 : FG := (tN 8)
noncomputable def cc_law_sight_right_1 : FT := (fTst (fOp opNotIn (fVar 8) (fVar 0)))
noncomputable def cf_law_sight_right_1 : FE := (fVar 8)
noncomputable def b_law_sight_right : FS :=
  (sSq (sSet (fLc (iSeq (fTup (fCons (fVar 2) (fCons (fVar 3) fNil)))) ct_law_sight_right_1 cc_law_sight_right_1 cf_law_sight_right_1 [8]) (tN 4))
  (sSq (sIte (fTst (fOp opNe (fVar 4) (fLst fNil))) (sSet (fTup (fCons (fC (.str "NoPerson")) (fCons (fOp opIx (fVar 4) (fC (.int 0))) fNil))) (tN 5)) (sSq (sSet (fCl clSorted (fCons (fLst (fCons (fIdxT (fVar 0) (fCons (fVar 2) fNil)) (fCons (fIdxT (fVar 0) (fCons (fVar 3) fNil)) fNil))) fNil)) (tTupA 2 (tCons (tN 6) (tCons (tN 7) tNil))))
    (sSet (fCall fn_law_sees false (fCons (fVar 0) (fCons (fVar 6) (fCons (fVar 7) fNil)))) (tN 5))))
  (sRt (fCall (fn_law_same 4) true (fCons (fLst (fCons (fCall fn_law_seen false (fCons (fVar 0) (fCons (fVar 2) (fCons (fVar 3) fNil)))) (fCons (fCall fn_law_seen false (fCons (fVar 1) (fCons (fVar 2) (fCons (fVar 3) fNil)))) fNil))) (fCons (fLst (fCons (fVar 5) (fCons (fVar 5) fNil))) fNil))))))
noncomputable def fn_law_sight_right : Fn := mkFn 9 b_law_sight_right
theorem srt_ij (i j : Nat) : srt [(i : Int), (j : Int)] = [((min i j : Nat) : Int), ((max i j : Nat) : Int)] := by
  have e : srt [(i : Int), (j : Int)] = srt [((min i j : Nat) : Int), ((max i j : Nat) : Int)] := by
    by_cases h : i ≤ j
    · rw [show min i j = i by omega, show max i j = j by omega]
    · rw [show min i j = j by omega, show max i j = i by omega]
      exact srt_congr (List.Perm.swap _ _ _)
  rw [e]
  exact (srt_eq (List.Perm.refl _) (by
    simp only [List.pairwise_cons, List.mem_singleton, List.not_mem_nil, false_implies, implies_true, List.Pairwise.nil, and_true]
    rintro z rfl
    omega)).symm
theorem asI2 (i j : Nat) : asInts [PyData.int (i : Int), .int (j : Int)] = some [(i : Int), (j : Int)] := rfl
theorem sight_ok {ns : List Int} {a b : Int} (hl : ns.length < 100) (hab : a ≠ b) (ba : a.natAbs < 2 ^ 1000) (bb : b.natAbs < 2 ^ 1000) : fn_law_sight_right [.d (.tuple (zD ns)), .d (.list (zD ns)), .d (.int a), .d (.int b)] [] = .ok (.dat (.bool true)) [] := by
  have st := lcGo_pure (emb := PyData.int) (t := ct_law_sight_right_1) (c := cc_law_sight_right_1) (f := cf_law_sight_right_1) (sl := [some (.d (.tuple (zD ns))), some (.d (.list (zD ns))), some (.d (.int a)), some (.d (.int b)), none, none, none, none, none]) (ws := [8]) (ce := []) (fun z => !decide (z ∈ ns)) PyData.int [a, b] [] (by simp) (fun q hq => by
    have ei : ∀ g, inB g (.d (.int q)) (.d (.tuple (zD ns))) = some (decide (q ∈ ns)) := fun g => inB_sq sqT g
    by_cases c : q ∈ ns <;> simp! [lcSt, ct_law_sight_right_1, cc_law_sight_right_1, cf_law_sight_right_1, ei, c, decide_true, decide_false, Bool.not_true, Bool.not_false])
  rw [List.nil_append] at st
  have st : lcGo ct_law_sight_right_1 cc_law_sight_right_1 cf_law_sight_right_1 [some (.d (.tuple (zD ns))), some (.d (.list (zD ns))), some (.d (.int a)), some (.d (.int b)), none, none, none, none, none] [8] [.int a, .int b] [] [] = .ok (([a, b].filter fun z => !decide (z ∈ ns)).map PyData.int) ⟨[some (.d (.tuple (zD ns))), some (.d (.list (zD ns))), some (.d (.int a)), some (.d (.int b)), none, none, none, none, none], []⟩ := st
  have hs : PyData.strOk "NoPerson" = true := by decide +kernel
  have ok1 : ∀ z : Int, okD 3 (noP z) = true := fun z => ok_str hs
  have s1 := fun z : Int => same_ok 4 _ (ok_two (ok1 z) (ok1 z))
  have s2 := fun c : Bool => same_ok 4 (.list [.bool c, .bool c]) (by cases c <;> rfl)
  have shI : ∀ l : List Int, SeqAt.shaped (.list (l.map PyData.int)) = true := fun l => shaped_zL
  have shI1 : ∀ z : Int, SeqAt.shaped (.list [PyData.int z]) = true := fun z => shI [z]
  have shI2 : ∀ z y : Int, SeqAt.shaped (.list [PyData.int z, .int y]) = true := fun z y => shI [z, y]
  by_cases ha : a ∈ ns
  · by_cases hb : b ∈ ns
    · have f0 : ([a, b].filter fun z => !decide (z ∈ ns)) = [] := by simp [ha, hb]
      rw [f0] at st
      have r1 := seen3_ok (x := .tuple (zD ns)) sqT (show ns.length < 1000 by omega) ha hb hab
      have r2 := seen3_ok (x := .list (zD ns)) sqL (show ns.length < 1000 by omega) ha hb hab
      have i1 := fun (g : G) => idxTK_t (ns := ns) (i := a) g ha
      have i2 := fun (g : G) => idxTK_t (ns := ns) (i := b) g hb
      have hi : ns.idxOf a < ns.length := List.idxOf_lt_length_iff.mpr ha
      have hj : ns.idxOf b < ns.length := List.idxOf_lt_length_iff.mpr hb
      have ne : ns.idxOf a ≠ ns.idxOf b := fun z => hab (by
        have e1 := List.getElem_idxOf hi
        have e2 := List.getElem_idxOf hj
        rw [← e1, ← e2]
        congr 1)
      have r3 := lsees_ok (x := .tuple (zD ns)) (i := min (ns.idxOf a) (ns.idxOf b)) (j := max (ns.idxOf a) (ns.idxOf b)) sqT (show ns.length < 1000 by omega) (by omega) (by omega)
      obtain ⟨B, eB⟩ : ∃ B, seesN ns (min (ns.idxOf a) (ns.idxOf b)) (max (ns.idxOf a) (ns.idxOf b)) = B := ⟨_, rfl⟩
      rw [eB] at r1 r2 r3
      simp! only [fn_law_sight_right, b_law_sight_right, st, shaped_nil, eqv_nil0, fIdxT_ap, isNd, i1, i2, asI2, srt_ij, call_of r3, call_of r1, call_of r2, call_of (s2 B)]
    · have f0 : ([a, b].filter fun z => !decide (z ∈ ns)) = [b] := by simp [ha, hb]
      rw [f0] at st
      have r1 := seen3_x (ns := ns) (sees_no2 (x := .tuple (zD ns)) sqT ha hb bb)
      have r2 := seen3_x (ns := ns) (sees_no2 (x := .list (zD ns)) sqL ha hb bb)
      have s := s1 b
      rw [noP] at r1 r2 s
      simp! only [fn_law_sight_right, b_law_sight_right, st, shaped_nil, shI1, eqv_nil, atI_0, call_of r1, call_of r2, call_of s]
  · obtain ⟨tl, f0⟩ : ∃ tl, ([a, b].filter fun z => !decide (z ∈ ns)) = a :: tl := by
      by_cases hb : b ∈ ns
      · exact ⟨[], by simp [ha, hb]⟩
      · exact ⟨[b], by simp [ha, hb]⟩
    rw [f0] at st
    have r1 := seen3_x (ns := ns) (sees_no1 (x := .tuple (zD ns)) (b := b) sqT ha ba)
    have r2 := seen3_x (ns := ns) (sees_no1 (x := .list (zD ns)) (b := b) sqL ha ba)
    have s := s1 a
    have sh := shI (a :: tl)
    rw [noP] at r1 r2 s
    rw [List.map_cons] at sh
    simp! only [fn_law_sight_right, b_law_sight_right, st, shaped_nil, sh, eqv_nil, atI_0, call_of r1, call_of r2, call_of s]
end DL
set_option Elab.async false
set_option linter.all false
set_option maxRecDepth 100000
set_option maxHeartbeats 1000000
set_option autoImplicit false
namespace DL
open PySem PySem.Spec PyProof.Rows L2
noncomputable def forElt (fn : Fn) : FE := fCall fn false (fCons (fVar 2) fNil)
noncomputable def forBody (t : Int) (fn : Fn) : FS := (sSq (sSet (fCall fn_law_box true (fCons (fVar 0) (fCons (fVar 1) fNil))) (tN 2))
    (sIte (fNotT (fTst (fCl clAll (fCons (fLc (iRg1 (fCons (fC (.int t)) fNil)) (tN 3) fYes (forElt fn) [3]) fNil)))) (sRt (fC (.bool false))) sNx))
noncomputable def lawFor (bd : FE) (t : Int) (fn : Fn) : FS := (sSq (sFr (iRg1 (fCons bd fNil)) (tN 1) (forBody t fn)) (sRt (fC (.bool true))))
noncomputable def bdMin (k : Int) : FE := fOp opAdd (fC (.int 1)) (fCl clMin (fCons (fC (.int k)) (fCons (fCl clLen (fCons (fVar 0) fNil)) fNil)))
theorem bdMin_ok (k : Nat) (hk : k < 60) (ns : List Int) (g : G) (hg : g.sl[0]? = some (some (.s ns))) : ∃ m : Nat, m < 62 ∧ bdMin k g = .ok (.d (.int m)) g := by
  refine ⟨(1 + (if ((ns.length : Nat) : Int) < (k : Int) then ((ns.length : Nat) : Int) else (k : Int))).toNat, ?_, ?_⟩
  · split <;> omega
  · have e : ((1 + (if ((ns.length : Nat) : Int) < (k : Int) then ((ns.length : Nat) : Int) else (k : Int))).toNat : Int) = 1 + (if ((ns.length : Nat) : Int) < (k : Int) then ((ns.length : Nat) : Int) else (k : Int)) := by split <;> omega
    rw [e]
    simp! [bdMin, hg]
theorem law_for {fn : Fn} {bd : FE} (t D : Nat) (ht : t < 60) (hD : D ≤ 1000000) (h : ∀ n bx, n ≤ 60 * D → BoxOk n bx → ∃ bx', fn [.o 0] [.lst bx] = .ok (.dat (.bool true)) [.lst bx'] ∧ BoxOk (n + D) bx') (ns : List Int)
    (hb : ∃ m : Nat, m < 62 ∧ bd ⟨[some (.s ns), none, none, none], []⟩ = .ok (.d (.int m)) ⟨[some (.s ns), none, none, none], []⟩) : mkFn 4 (lawFor bd t fn) [.s ns] [] = .ok (.dat (.bool true)) [] := by
  obtain ⟨m, hm, em⟩ := hb
  have rk : rOk (m : Int) = true := rOk_of (by omega) (by omega)
  have rt : rOk (t : Int) = true := rOk_of (by omega) (by omega)
  obtain ⟨g', e, a, b, ce', rfl⟩ := forGo_inv (emb := fun (i : Nat) => PyData.int (i : Int)) (t := tN 1) (u := forBody t fn) (xs := List.range m) (g := ⟨[some (.s ns), none, none, none], []⟩)
    (fun i g => ∃ a b ce, g = ⟨[some (.s ns), a, b, none], ce⟩) ⟨none, none, [], rfl⟩ (fun i x g hx hI => by
      obtain ⟨a, b, ce, rfl⟩ := hI
      have hi : i < m := by
        have := (List.getElem?_eq_some_iff.mp hx).1
        simpa using this
      have ex : x = i := by
        have := (List.getElem?_eq_some_iff.mp hx).2
        simpa using this.symm
      subst ex
      obtain ⟨bx, b1, b2⟩ := box_ok ns x (by omega)
      have c1 := call_newO b1 ⟨[some (.s ns), some (.d (.int x)), b, none], ce⟩
      obtain ⟨acc, ce2, e2, ea, bx2, ec, hb2⟩ := lcGo_inv (emb := fun (i : Nat) => PyData.int (i : Int)) (t := tN 3) (c := fYes) (f := forElt fn) (sl := [some (.s ns), some (.d (.int x)), some (.o ce.length), none]) (ws := [3]) (fun i acc ce2 => acc = (List.replicate i true).map PyData.bool ∧ ∃ bx', ce2 = ce ++ [.lst bx'] ∧ BoxOk (D * i) bx') (xs := List.range t) (ce := ce ++ [.lst bx]) ⟨rfl, bx, rfl, b2⟩ (fun i acc ce hI hi => by
          rw [hI.1, List.length_map, List.length_replicate]
          rw [List.length_range] at hi
          omega) (fun i y acc ce2 hy hI => by
          obtain ⟨ea, bx', rfl, hb'⟩ := hI
          have hi : i < t := by
            have := (List.getElem?_eq_some_iff.mp hy).1
            simpa using this
          have : D * i ≤ D * 60 := Nat.mul_le_mul_left D (by omega)
          obtain ⟨bx3, b3, hb3⟩ := h (D * i) bx' (by omega) hb'
          have c2 := callB_of b3 (j := ce.length) (g := ⟨[some (.s ns), some (.d (.int x)), some (.o ce.length), some (.d (.int y))], ce ++ [.lst bx']⟩) false (by simp)
          have es : (ce ++ [Ct.lst bx']).set ce.length (Ct.lst bx3) = ce ++ [Ct.lst bx3] := set_last
          refine ⟨some (.bool true), ce ++ [Ct.lst bx3], ?_, ?_, bx3, rfl, ?_⟩
          · simp! [lcSt, forElt, c2, es]
          · rw [ea, List.replicate_succ', List.map_append]; rfl
          · rw [Nat.mul_add, Nat.mul_one]; exact hb3)
      rw [← rng0] at e2
      subst ea ec
      have eall : (List.replicate t true).all id = true := by rw [List.all_eq_true]; intro z hz; exact (List.mem_replicate.mp hz).2
      rw [List.length_range] at e2
      refine ⟨⟨[some (.s ns), some (.d (.int x)), some (.o ce.length), none], ce ++ [.lst bx2]⟩, .inl ?_, _, _, _, rfl⟩
      simp! [forBody, c1, rt, Int.toNat_natCast, e2, eall])
  rw [← rng0] at e
  simp! [lawFor, em, rk, Int.toNat_natCast, e]
end DL
set_option Elab.async false
set_option linter.all false
set_option maxRecDepth 100000
set_option maxHeartbeats 1000000
set_option autoImplicit false
namespace DL
open PySem PySem.Spec PyProof.Rows L2
noncomputable def ct_law_right_1 : FG := (tN 7)
noncomputable def cc_law_right_1 : FT := (fTst (fCall fn_law_sees false (fCons (fVar 1) (fCons (fVar 5) (fCons (fVar 7) fNil)))))
noncomputable def cf_law_right_1 : FE := (fTup (fCons (fVar 5) (fCons (fVar 7) fNil)))
noncomputable def ft_law_right_1 : FG := (tN 5)
noncomputable def fu_law_right_1 : FS := (sSet (fOp opAdd (fVar 4) (fLc (iRg2 (fCons (fOp opAdd (fVar 5) (fC (.int 1))) (fCons (fCl clLen (fCons (fVar 1) fNil)) fNil))) ct_law_right_1 cc_law_right_1 cf_law_right_1 [7])) (tN 4))
noncomputable def ft_law_right_3 : FG := (tN 7)
noncomputable def fu_law_right_3 : FS := (sSq (sSet (fIf (fTst (fOp opIn (fTup (fCons (fVar 5) (fCons (fVar 7) fNil))) (fVar 3))) (fCall fn_law_turned false (fCons (fVar 1) (fCons (fTup (fCons (fVar 5) (fCons (fVar 7) fNil))) fNil))) (fTup (fCons (fC (.str "Blocked")) (fCons (fTup (fCons (fVar 5) (fCons (fVar 7) fNil))) fNil)))) (tN 8))
      (sIte (fNotT (fTst (fCall (fn_law_same 4) false (fCons (fLst (fCons (fCall fn_law_told false (fCons (fVar 1) (fCons (fTup (fCons (fVar 5) (fCons (fVar 7) fNil))) fNil))) (fCons (fCall fn_law_told false (fCons (fVar 2) (fCons (fLst (fCons (fVar 5) (fCons (fVar 7) fNil))) fNil))) fNil))) (fCons (fLst (fCons (fVar 8) (fCons (fVar 8) fNil))) fNil))))) (sRt (fC (.bool false))) sNx))
noncomputable def ft_law_right_2 : FG := (tN 5)
noncomputable def fu_law_right_2 : FS := (sFr (iRg2 (fCons (fNeg (fC (.int 1))) (fCons (fOp opAdd (fCl clLen (fCons (fVar 1) fNil)) (fC (.int 2))) fNil))) ft_law_right_3 fu_law_right_3)
noncomputable def ct_law_right_2 : FG := (tN 12)
noncomputable def cc_law_right_2 : FT := (fTst (fOp opNe (fVar 12) (fVar 10)))
noncomputable def cf_law_right_2 : FE := (fVar 12)
noncomputable def ft_law_right_5 : FG := (tN 11)
noncomputable def fu_law_right_5 : FS := (sIte (fNotT (fTst (fCall fn_law_sight_right false (fCons (fVar 1) (fCons (fVar 2) (fCons (fVar 10) (fCons (fVar 11) fNil))))))) (sRt (fC (.bool false))) sNx)
noncomputable def ft_law_right_4 : FG := (tN 10)
noncomputable def fu_law_right_4 : FS := (sFr (iSeq (fLc (iSeq (fOp opAdd (fVar 9) (fLst (fCons (fNeg (fC (.int 1))) fNil)))) ct_law_right_2 cc_law_right_2 cf_law_right_2 [12])) ft_law_right_5 fu_law_right_5)
noncomputable def b_law_right : FS :=
  (sSq (sSet (fCall fn_law_crowd false (fCons (fVar 0) (fCons (fC (.int 16)) fNil))) (tN 1))
  (sSq (sP3 2 3 4 (fCons (fCl clList (fCons (fVar 1) fNil)) (fCons (fCall fn_law_swaps false (fCons (fVar 1) fNil)) (fCons (fLst fNil) fNil))))
  (sSq (sFr (iRg1 (fCons (fCl clLen (fCons (fVar 1) fNil)) fNil)) ft_law_right_1 fu_law_right_1)
  (sSq (sSet (fLstL (fCons (fCall fn_sights true (fCons (fVar 1) fNil)) (fCons (fCall fn_sights true (fPerm [0] (fCons (fVar 2) fNil))) (fCons (fCall fn_exchanges true (fCons (fVar 1) fNil)) (fCons (fCall fn_exchanges true (fPerm [0] (fCons (fVar 2) fNil))) fNil))))) (tN 6))
  (sSq (sIte (fNotT (fTst (fCallL (fn_law_same 4) (fCons (fVar 6) (fCons (fLst (fCons (fVar 4) (fCons (fVar 4) (fCons (fVar 3) (fCons (fVar 3) fNil))))) fNil))))) (sRt (fC (.bool false))) sNx)
  (sSq (sEx (fMt mtAppend (fOp opIxL (fVar 6) (fC (.int 0))) (fCons (fC (.str "more")) fNil)))
  (sSq (sEx (fMt mtAppend (fOp opIxL (fVar 6) (fC (.int 2))) (fCons (fC (.str "more")) fNil)))
  (sSq (sIte (fNotT (fTst (fCall (fn_law_same 4) false (fCons (fLst (fCons (fCall fn_sights false (fCons (fVar 1) fNil)) (fCons (fCall fn_exchanges false (fCons (fVar 1) fNil)) fNil))) (fCons (fLst (fCons (fVar 4) (fCons (fVar 3) fNil))) fNil))))) (sRt (fC (.bool false))) sNx)
  (sSq (sFr (iRg2 (fCons (fNeg (fC (.int 2))) (fCons (fOp opAdd (fCl clLen (fCons (fVar 1) fNil)) (fC (.int 2))) fNil))) ft_law_right_2 fu_law_right_2)
  (sSq (sSet (fSl (fCall fn_law_strewn false (fCons (fVar 0) (fCons (fVar 2) fNil))) fNoP (fPart (fC (.int 6)))) (tN 9))
  (sSq (sFr (iSeq (fOp opAdd (fVar 9) (fLst (fCons (fC (.int 0)) (fCons (fOp opPow (fC (.int 10)) (fC (.int 12))) fNil))))) ft_law_right_4 fu_law_right_4)
  (sRt (fAnd (fCall (fn_law_same 4) false (fCons (fCall fn_law_told false (fCons (fVar 1) (fCons (fTup (fCons (fC (.int 0)) (fCons (fOp opPow (fC (.int 10)) (fC (.int 30))) fNil))) fNil))) (fCons (fTup (fCons (fC (.str "Blocked")) (fCons (fTup (fCons (fC (.int 0)) (fCons (fOp opPow (fC (.int 10)) (fC (.int 30))) fNil))) fNil))) fNil))) (fOp opEq (fVar 2) (fCl clList (fCons (fVar 1) fNil))))))))))))))))
noncomputable def fn_law_right : Fn := mkFn 13 b_law_right
theorem inB_pair (E : List (Int × Int)) (a b : Int) (g : G) : inB g (.d (.tuple [.int a, .int b])) (.d (.list (psD E))) = some (decide ((a, b) ∈ E)) := by
  show inB g (.d (pD (a, b))) (.d (.list (psD E))) = _
  simp only [inB, dictAt, datOf, any_psD, shaped_pL, shaped_pD, Bool.and_self, if_true]
def K3 (ns : List Int) (a3 a4 a5 a6 a7 a8 a9 a10 a11 : Option R) : List (Option R) := [some (.o 0), some (.d (.tuple (zD ns))), some (.d (.list (zD ns))), a3, a4, a5, a6, a7, a8, a9, a10, a11, none]
theorem due_loop {ns : List Int} (hl : ns.length < 100) (a3 a6 : Option R) (CE : List Ct) :
    ∃ a5, forGo ft_law_right_1 fu_law_right_1 (rng 0 ns.length) ⟨K3 ns a3 (some (.d (.list []))) none a6 none none none none none, CE⟩ = .ok .nx ⟨K3 ns a3 (some (.d (.list (psD (sgI ns))))) a5 a6 none none none none none, CE⟩ := by
  obtain ⟨g', e, a5, rfl⟩ := forGo_inv (emb := fun (i : Nat) => PyData.int (i : Int)) (t := ft_law_right_1) (u := fu_law_right_1) (xs := List.range ns.length) (g := ⟨K3 ns a3 (some (.d (.list []))) none a6 none none none none none, CE⟩)
    (fun i g => ∃ a5, g = ⟨K3 ns a3 (some (.d (.list (psD (((List.range i).flatMap (sightsAt ns)).map castP))))) a5 a6 none none none none none, CE⟩) ⟨none, rfl⟩ (fun k z g hz hI => by
      obtain ⟨a5, rfl⟩ := hI
      have hi : k < ns.length := by
        have := (List.getElem?_eq_some_iff.mp hz).1
        simpa using this
      have ez : z = k := by
        have := (List.getElem?_eq_some_iff.mp hz).2
        simpa using this.symm
      subst ez
      have hz1 : ((z : Nat) : Int) + 1 = ((z + 1 : Nat) : Int) := by omega
      have ht : (((ns.length : Nat) : Int) - ((z + 1 : Nat) : Int)).toNat = ns.length - (z + 1) := by omega
      have er := rngN (z + 1) (ns.length - (z + 1))
      have hr2 : rOk ((z + 1 : Nat) : Int) = true := rOk_of (by omega) (by omega)
      have hr : rOk ((ns.length : Nat) : Int) = true := rOk_of (by omega) (by omega)
      have step := lcGo_pure (emb := fun (j : Nat) => PyData.int (j : Int)) (t := ct_law_right_1) (c := cc_law_right_1) (f := cf_law_right_1) (sl := K3 ns a3 (some (.d (.list (psD (((List.range z).flatMap (sightsAt ns)).map castP))))) (some (.d (.int z))) a6 none none none none none) (ws := [7]) (ce := CE) (seesN ns z) (fun j => pD (castP (z, j))) (List.range' (z + 1) (ns.length - (z + 1))) [] (by simp; omega) (fun q hq => by
        have hq := List.mem_range'_1.mp hq
        have r := lsees_ok (x := .tuple (zD ns)) (i := z) (j := q) sqT (by omega) (by omega) (by omega)
        cases hs : seesN ns z q <;> rw [hs] at r <;> simp! [lcSt, ct_law_right_1, cc_law_right_1, cf_law_right_1, K3, call_of r, castP, pD])
      have e2 : ((List.range' (z + 1) (ns.length - (z + 1))).filter (seesN ns z)).map (fun j => pD (castP (z, j))) = psD ((sightsAt ns z).map castP) := by
        unfold sightsAt psD
        rw [List.map_map, List.map_map]
        rfl
      rw [List.nil_append, e2] at step
      have l1 := sights_len ns z
      have l2 := sightsAt_len ns z
      have hm : z * ns.length ≤ 100 * 100 := Nat.mul_le_mul (by omega) (by omega)
      refine ⟨⟨K3 ns a3 (some (.d (.list (psD (((List.range (z + 1)).flatMap (sightsAt ns)).map castP))))) (some (.d (.int z))) a6 none none none none none, CE⟩, .inl ?_, _, rfl⟩
      have e3 : psD (((List.range (z + 1)).flatMap (sightsAt ns)).map castP) = psD (((List.range z).flatMap (sightsAt ns)).map castP) ++ psD ((sightsAt ns z).map castP) := by
        rw [List.range_succ, List.flatMap_append, List.map_append]
        unfold psD
        rw [List.map_append]
        simp
      rw [e3]
      have lim : ((List.range z).flatMap (sightsAt ns)).length + (sightsAt ns z).length ≤ 100000 := by omega
      simp only [K3] at step ⊢
      simp! [ft_law_right_1, fu_law_right_1, hz1, ht, hr, hr2, er, step, cat2, lim])
  rw [List.length_range, ← rng0] at e
  exact ⟨a5, e⟩
theorem turnedZ {ns : List Int} {i j : Int} (hl : ns.length < 1000) (h : (i, j) ∈ exI ns) : fn_law_turned [.d (.tuple (zD ns)), .d (.tuple [.int i, .int j])] [] = .ok (.dat (.tuple (zD (swapZ ns (i, j))))) [] := by
  obtain ⟨a, b, e, hm, es⟩ := exI_nat h
  obtain ⟨h1, h2, -⟩ := exch_mem.mp hm
  rw [es]
  have := turned_ok (ns := ns) (i := a) (j := b) hl (by omega) h2
  rw [← e] at this
  exact this
theorem told_step {ns : List Int} (hl : ns.length < 100) (nd : ns.Nodup) {i j : Int} (hb : Sm (i, j)) (a4 a6 a7 a8 : Option R) (CE : List Ct) :
    ∃ a8', forSt ft_law_right_3 fu_law_right_3 (.int j) ⟨K3 ns (some (.d (.list (psD (exI ns))))) a4 (some (.d (.int i))) a6 a7 a8 none none none, CE⟩ = .ok .nx ⟨K3 ns (some (.d (.list (psD (exI ns))))) a4 (some (.d (.int i))) a6 (some (.d (.int j))) a8' none none none, CE⟩ := by
  have ei := fun (g : G) => inB_pair (exI ns) i j g
  by_cases h : (i, j) ∈ exI ns
  · have r1 := told3_ok (x := .tuple (zD ns)) (q := .tuple [.int i, .int j]) (p := (i, j)) sqT (show ns.length < 1000 by omega) sqT h
    have r2 := told3_ok (x := .list (zD ns)) (q := .list [.int i, .int j]) (p := (i, j)) sqL (show ns.length < 1000 by omega) sqL h
    have r3 := turnedZ (show ns.length < 1000 by omega) h
    have mt := swapZ_mate nd h
    obtain ⟨W, eW⟩ : ∃ W, swapZ ns (i, j) = W := ⟨_, rfl⟩
    rw [eW] at r1 r2 r3 mt
    have k := okzT W (by rw [mt.len]; omega)
    have s := same_ok 4 _ (ok_two k k)
    refine ⟨some (.d (.tuple (zD W))), ?_⟩
    simp! only [forSt, ft_law_right_3, fu_law_right_3, K3, ei, h, decide_true, call_of r1, call_of r2, call_of r3, call_of s]
  · have r1 : fn_law_told [.d (.tuple (zD ns)), .d (.tuple [.int i, .int j])] [] = .ok (.dat (.tuple [.str "Blocked", .tuple [.int i, .int j]])) [] := told3_no (p := (i, j)) sqT (show ns.length < 1000 by omega) sqT h hb
    have r2 : fn_law_told [.d (.list (zD ns)), .d (.list [.int i, .int j])] [] = .ok (.dat (.tuple [.str "Blocked", .tuple [.int i, .int j]])) [] := told3_no (p := (i, j)) sqL (show ns.length < 1000 by omega) sqL h hb
    have k : okD 3 (.tuple [.str "Blocked", .tuple [.int i, .int j]]) = true := by
      show (decide (2 < 1000) && (PyData.strOk "Blocked" && (true && true))) = true
      rw [show PyData.strOk "Blocked" = true from by decide +kernel]
      rfl
    have s := same_ok 4 _ (ok_two k k)
    refine ⟨some (.d (.tuple [.str "Blocked", .tuple [.int i, .int j]])), ?_⟩
    simp! only [forSt, ft_law_right_3, fu_law_right_3, K3, ei, h, decide_false, call_of r1, call_of r2, call_of s]
theorem smI {i : Int} (h1 : -1000 ≤ i) (h2 : i ≤ 2000000000000) : i.natAbs < 2 ^ 1000 := Nat.lt_of_lt_of_le (show i.natAbs < 2 ^ 60 by omega) (Nat.pow_le_pow_right (by decide) (by decide))
theorem told_loop {ns : List Int} (hl : ns.length < 100) (nd : ns.Nodup) {i : Int} (hi : i.natAbs < 2 ^ 1000) (a4 a6 a7 a8 : Option R) (CE : List Ct) :
    ∃ a7' a8', forGo ft_law_right_3 fu_law_right_3 (rng (-1) (ns.length + 3)) ⟨K3 ns (some (.d (.list (psD (exI ns))))) a4 (some (.d (.int i))) a6 a7 a8 none none none, CE⟩ = .ok .nx ⟨K3 ns (some (.d (.list (psD (exI ns))))) a4 (some (.d (.int i))) a6 a7' a8' none none none, CE⟩ := by
  obtain ⟨g', e, a7', a8', rfl⟩ := forGo_inv (emb := fun (k : Nat) => PyData.int (-1 + (k : Int))) (t := ft_law_right_3) (u := fu_law_right_3) (xs := List.range (ns.length + 3)) (g := ⟨K3 ns (some (.d (.list (psD (exI ns))))) a4 (some (.d (.int i))) a6 a7 a8 none none none, CE⟩)
    (fun k g => ∃ a7 a8, g = ⟨K3 ns (some (.d (.list (psD (exI ns))))) a4 (some (.d (.int i))) a6 a7 a8 none none none, CE⟩) ⟨a7, a8, rfl⟩ (fun k z g hz hI => by
      obtain ⟨a7, a8, rfl⟩ := hI
      have hm := List.mem_range.mp (List.mem_of_getElem? hz)
      obtain ⟨a8', e⟩ := told_step hl nd (i := i) (j := -1 + (z : Int)) ⟨hi, smI (by omega) (by omega)⟩ a4 a6 a7 a8 CE
      exact ⟨_, .inl e, _, _, rfl⟩)
  exact ⟨a7', a8', e⟩
theorem told_all {ns : List Int} (hl : ns.length < 100) (nd : ns.Nodup) (a4 a5 a6 : Option R) (CE : List Ct) :
    ∃ a5' a7' a8', forGo ft_law_right_2 fu_law_right_2 (rng (-2) (ns.length + 4)) ⟨K3 ns (some (.d (.list (psD (exI ns))))) a4 a5 a6 none none none none none, CE⟩ = .ok .nx ⟨K3 ns (some (.d (.list (psD (exI ns))))) a4 a5' a6 a7' a8' none none none, CE⟩ := by
  obtain ⟨g', e, a5', a7', a8', rfl⟩ := forGo_inv (emb := fun (k : Nat) => PyData.int (-2 + (k : Int))) (t := ft_law_right_2) (u := fu_law_right_2) (xs := List.range (ns.length + 4)) (g := ⟨K3 ns (some (.d (.list (psD (exI ns))))) a4 a5 a6 none none none none none, CE⟩)
    (fun k g => ∃ a5 a7 a8, g = ⟨K3 ns (some (.d (.list (psD (exI ns))))) a4 a5 a6 a7 a8 none none none, CE⟩) ⟨a5, none, none, rfl⟩ (fun k z g hz hI => by
      obtain ⟨a5, a7, a8, rfl⟩ := hI
      have hm := List.mem_range.mp (List.mem_of_getElem? hz)
      obtain ⟨a7', a8', e⟩ := told_loop hl nd (i := -2 + (z : Int)) (smI (by omega) (by omega)) a4 a6 a7 a8 CE
      have hr1 : rOk ((ns.length : Int) + 2) = true := rOk_of (by omega) (by omega)
      have hr2 : rOk (-1) = true := by decide
      have ht : ((ns.length : Int) + 2 - -1).toNat = ns.length + 3 := by omega
      have st : forSt ft_law_right_2 fu_law_right_2 (.int (-2 + (z : Int))) ⟨K3 ns (some (.d (.list (psD (exI ns))))) a4 a5 a6 a7 a8 none none none, CE⟩ = .ok .nx ⟨K3 ns (some (.d (.list (psD (exI ns))))) a4 (some (.d (.int (-2 + (z : Int))))) a6 a7' a8' none none none, CE⟩ := by
        simp only [K3] at e ⊢
        simp! only [forSt, ft_law_right_2, fu_law_right_2, hr1, hr2, ht, e]
      exact ⟨_, .inl st, _, _, _, rfl⟩)
  exact ⟨a5', a7', a8', e⟩
theorem sight_loop {ns l : List Int} (hl : ns.length < 100) (ll : l.length < 100) {a : Int} (ba : a.natAbs < 2 ^ 1000) (bl : ∀ z ∈ l, z.natAbs < 2 ^ 1000) (a3 a4 a5 a6 a7 a8 a10 a11 : Option R) (CE : List Ct) :
    ∃ a11', forSt ft_law_right_4 fu_law_right_4 (.int a) ⟨K3 ns a3 a4 a5 a6 a7 a8 (some (.d (.list (zD l)))) a10 a11, CE⟩ = .ok .nx ⟨K3 ns a3 a4 a5 a6 a7 a8 (some (.d (.list (zD l)))) (some (.d (.int a))) a11', CE⟩ := by
  have step := lcGo_pure (emb := PyData.int) (t := ct_law_right_2) (c := cc_law_right_2) (f := cf_law_right_2) (sl := K3 ns a3 a4 a5 a6 a7 a8 (some (.d (.list (zD l)))) (some (.d (.int a))) a11) (ws := [12]) (ce := CE) (fun z => !decide (z = a)) PyData.int (l ++ [-1]) [] (by simp; omega) (fun q hq => by
    by_cases c : q = a <;> simp! only [lcSt, ct_law_right_2, cc_law_right_2, cf_law_right_2, K3, c, decide_true, decide_false, Bool.not_true, Bool.not_false])
  rw [List.nil_append] at step
  obtain ⟨Q, eQ⟩ : ∃ Q, (l ++ [-1]).filter (fun z => !decide (z = a)) = Q := ⟨_, rfl⟩
  rw [eQ] at step
  have hQ : ∀ z ∈ Q, z ≠ a ∧ z.natAbs < 2 ^ 1000 := fun z hz => by
    rw [← eQ, List.mem_filter] at hz
    refine ⟨by simpa using hz.2, ?_⟩
    rcases List.mem_append.mp hz.1 with h | h
    · exact bl z h
    · rw [List.mem_singleton.mp h]; exact smI (by decide) (by decide)
  obtain ⟨g', e, a11', rfl⟩ := forGo_inv (emb := PyData.int) (t := ft_law_right_5) (u := fu_law_right_5) (xs := Q) (g := ⟨K3 ns a3 a4 a5 a6 a7 a8 (some (.d (.list (zD l)))) (some (.d (.int a))) a11, CE⟩)
    (fun k g => ∃ a11, g = ⟨K3 ns a3 a4 a5 a6 a7 a8 (some (.d (.list (zD l)))) (some (.d (.int a))) a11, CE⟩) ⟨a11, rfl⟩ (fun k z g hz hI => by
      obtain ⟨a11, rfl⟩ := hI
      obtain ⟨h1, h2⟩ := hQ z (List.mem_of_getElem? hz)
      have r := sight_ok (ns := ns) (a := a) (b := z) hl (Ne.symm h1) ba h2
      refine ⟨_, .inl ?_, some (.d (.int z)), rfl⟩
      simp! only [forSt, ft_law_right_5, fu_law_right_5, K3, call_of r])
  refine ⟨a11', ?_⟩
  have lz : (zD l).length + 1 ≤ 100000 := by unfold zD; rw [List.length_map]; omega
  have ez : zD l ++ [PyData.int (-1)] = (l ++ [-1]).map PyData.int := by rw [List.map_append]; rfl
  simp only [K3] at step e ⊢
  obtain ⟨Z, eZ⟩ : ∃ Z, zD l = Z := ⟨_, rfl⟩
  rw [eZ] at lz ez step e ⊢
  simp! only [forSt, ft_law_right_4, fu_law_right_4, cat2, lz, ez, step, e]
theorem sight_all {ns l : List Int} (hl : ns.length < 100) (ll : l.length < 100) (bl : ∀ z ∈ l, z.natAbs < 2 ^ 1000) (a3 a4 a5 a6 a7 a8 : Option R) (CE : List Ct) :
    ∃ a10' a11', forGo ft_law_right_4 fu_law_right_4 ((l ++ [0, 1000000000000]).map PyData.int) ⟨K3 ns a3 a4 a5 a6 a7 a8 (some (.d (.list (zD l)))) none none, CE⟩ = .ok .nx ⟨K3 ns a3 a4 a5 a6 a7 a8 (some (.d (.list (zD l)))) a10' a11', CE⟩ := by
  obtain ⟨g', e, a10', a11', rfl⟩ := forGo_inv (emb := PyData.int) (t := ft_law_right_4) (u := fu_law_right_4) (xs := l ++ [0, 1000000000000]) (g := ⟨K3 ns a3 a4 a5 a6 a7 a8 (some (.d (.list (zD l)))) none none, CE⟩)
    (fun k g => ∃ a10 a11, g = ⟨K3 ns a3 a4 a5 a6 a7 a8 (some (.d (.list (zD l)))) a10 a11, CE⟩) ⟨none, none, rfl⟩ (fun k z g hz hI => by
      obtain ⟨a10, a11, rfl⟩ := hI
      have hm := List.mem_of_getElem? hz
      have bz : z.natAbs < 2 ^ 1000 := by
        rcases List.mem_append.mp hm with h | h
        · exact bl z h
        · simp only [List.mem_cons, List.not_mem_nil, or_false] at h
          rcases h with rfl | rfl <;> exact smI (by decide) (by decide)
      obtain ⟨a11', e⟩ := sight_loop hl ll bz bl a3 a4 a5 a6 a7 a8 a10 a11 CE
      exact ⟨_, .inl e, _, _, rfl⟩)
  exact ⟨a10', a11', e⟩
theorem right_ok {n : Nat} {bx : List PyData} (hn : n < 700000000) (h : BoxOk n bx) : ∃ bx', fn_law_right [.o 0] [.lst bx] = .ok (.dat (.bool true)) [.lst bx'] ∧ BoxOk (n + 2200) bx' := by
  obtain ⟨ns, bx1, e1, hl, nd, hb, hb1⟩ := crowd_ok (m := 16) h (by omega) (by decide)
  have e1 : fn_law_crowd [.o 0, .d (.int 16)] [.lst bx] = .ok (.dat (.tuple (zD ns))) [.lst bx1] := e1
  have c1 := fun (sl : List (Option R)) => callB_of e1 (j := 0) (g := ⟨sl, [.lst bx]⟩) false rfl
  have sw := swaps_ok (x := .tuple (zD ns)) sqT (show ns.length < 100 by omega)
  obtain ⟨a5, f1⟩ := due_loop (ns := ns) (by omega) (some (.d (.list (psD (exI ns))))) none [.lst bx1]
  have g1 := sights_ok (x := .tuple (zD ns)) sqT (show ns.length < 100 by omega)
  have g2 := sights_ok (x := .list (zD ns)) sqL (show ns.length < 100 by omega)
  have x1 := exchanges_ok (x := .tuple (zD ns)) sqT (show ns.length < 100 by omega)
  have x2 := exchanges_ok (x := .list (zD ns)) sqL (show ns.length < 100 by omega)
  have lS : (sgI ns).length < 1000 := by
    have := sights_len ns ns.length
    have hm : ns.length * ns.length ≤ 16 * 16 := Nat.mul_le_mul (by omega) (by omega)
    show ((sightsM ns).map castP).length < 1000
    rw [List.length_map]
    unfold sightsM
    omega
  have lE : (exI ns).length < 1000 := by
    have q : (exchM ns).length ≤ (sightsM ns).length := by unfold exchM; exact List.length_filter_le _ _
    have lS : ((sightsM ns).map castP).length < 1000 := lS
    rw [List.length_map] at lS
    show ((exchM ns).map castP).length < 1000
    rw [List.length_map]
    omega
  have kS := okp (sgI ns) lS
  have kE := okp (exI ns) lE
  obtain ⟨S, eS⟩ : ∃ S, psD (sgI ns) = S := ⟨_, rfl⟩
  obtain ⟨EX, eE⟩ : ∃ EX, psD (exI ns) = EX := ⟨_, rfl⟩
  have lS : S.length < 1000 := by rw [← eS]; unfold psD; rw [List.length_map]; exact lS
  have lE : EX.length < 1000 := by rw [← eE]; unfold psD; rw [List.length_map]; exact lE
  have s4 := same_ok 4 (.list [.list S, .list S, .list EX, .list EX]) (by
    rw [eS] at kS
    rw [eE] at kE
    show (decide (4 < 1000) && (okD 3 (.list S) && (okD 3 (.list S) && (okD 3 (.list EX) && (okD 3 (.list EX) && true))))) = true
    rw [kS, kE]
    rfl)
  have s2 := same_ok 4 (.list [.list S, .list EX]) (by
    rw [eS] at kS
    rw [eE] at kE
    exact ok_two kS kE)
  have cl := fun (sl : List (Option R)) => callL_of (f := fn_law_same 4) (x := .bool true) (g := ⟨sl, [.lst bx1, .lst S, .lst S, .lst EX, .lst EX]⟩) (rs := [.l [1, 2, 3, 4], .d (.list [.list S, .list S, .list EX, .list EX])]) (ds := [.list [.list S, .list S, .list EX, .list EX], .list [.list S, .list S, .list EX, .list EX]]) s4 rfl rfl
  obtain ⟨a5', a7', a8', f2⟩ := told_all (ns := ns) (by omega) nd (some (.d (.list S))) a5 (some (.l [1, 2, 3, 4])) [.lst bx1, .lst (S ++ [.str "more"]), .lst S, .lst (EX ++ [.str "more"]), .lst EX]
  obtain ⟨es, bx2, hp, e3, hb3⟩ := strewn_ok (x := .list (zD ns)) hb1 (by unfold zD; rw [List.length_map]; omega) sqL (by unfold zD; rw [List.length_map]; omega) (plain_ints ns 5)
  obtain ⟨l, rfl, hq⟩ := perm_zD hp
  have c3 := fun (sl : List (Option R)) (CE : List Ct) => callB_new e3 (j := 0) (g := ⟨sl, .lst bx1 :: CE⟩) rfl
  have ct : cut (zD l) none (some 6) = zD (l.take 6) := by
    rw [show (6 : Int) = ((6 : Nat) : Int) from rfl, cut_to]
    unfold zD
    rw [List.map_take]
  have lt : (l.take 6).length < 100 := by rw [List.length_take]; omega
  obtain ⟨a10', a11', f3⟩ := sight_all (ns := ns) (l := l.take 6) (by omega) lt (fun z hz => by
    have := hb z (hq.mem_iff.mp (List.mem_of_mem_take hz))
    exact smI (by omega) (by omega)) (some (.d (.list (psD (exI ns))))) (some (.d (.list S))) a5' (some (.l [1, 2, 3, 4])) a7' a8' [.lst bx2, .lst (S ++ [.str "more"]), .lst S, .lst (EX ++ [.str "more"]), .lst EX]
  have rW : fn_law_told [.d (.tuple (zD ns)), .d (.tuple [.int 0, .int 1000000000000000000000000000000])] [] = .ok (.dat (.tuple [.str "Blocked", .tuple [.int 0, .int 1000000000000000000000000000000]])) [] := told3_no (p := (0, 1000000000000000000000000000000)) sqT (show ns.length < 1000 by omega) sqT (fun z => by
    have := exI_mem.mp z
    omega) ⟨by decide, by decide +kernel⟩
  have sW := same_ok 4 (.tuple [.str "Blocked", .tuple [.int 0, .int 1000000000000000000000000000000]]) (by
    show (decide (2 < 1000) && (PyData.strOk "Blocked" && (true && true))) = true
    rw [show PyData.strOk "Blocked" = true from by decide +kernel]
    rfl)
  have hr : rOk ((ns.length : Nat) : Int) = true := rOk_of (by omega) (by omega)
  have hr2 : rOk (((ns.length : Nat) : Int) + 2) = true := rOk_of (by omega) (by omega)
  have hr3 : rOk (-2) = true := by decide
  have ht : ((ns.length : Int) + 2 - -2).toNat = ns.length + 4 := by omega
  have lz : (zD (l.take 6)).length + 2 ≤ 100000 := by unfold zD; rw [List.length_map]; omega
  have ez : zD (l.take 6) ++ [PyData.int 0, .int 1000000000000] = (l.take 6 ++ [0, 1000000000000]).map PyData.int := by rw [List.map_append]; rfl
  refine ⟨bx2, ?_, hb3.mono (by unfold zD; rw [List.length_map]; omega)⟩
  rw [eE] at f1 f2 f3 sw x1 x2
  rw [eS] at f1 g1 g2
  obtain ⟨Z6, eZ6⟩ : ∃ Z, zD (l.take 6) = Z := ⟨_, rfl⟩
  rw [eZ6] at ct lz ez f3
  obtain ⟨Q6, eQ6⟩ : ∃ Z, (l.take 6 ++ [0, 1000000000000]).map PyData.int = Z := ⟨_, rfl⟩
  rw [eQ6] at ez f3
  have at2 : atI [1, 2, 3, 4] 2 = some 3 := rfl
  have lS2 : S.length < 100000 := by omega
  have lE2 : EX.length < 100000 := by omega
  simp only [K3] at f1 f2 f3
  simp! only [fn_law_right, b_law_right, c1, call_of sw, hr, Int.toNat_natCast, f1, call_newO g1, call_newO g2, call_newO x1, call_newO x2, asOs, lstLK, cl, ixL0, at2, lS2, lE2, call_lst g1, call_lst x1, call_of s2, hr2, hr3, ht, f2, c3, ct, cat2, lz, ez, show Int.natAbs 10 < 18446744073709551616 by decide, f3, call_of rW, call_of sW]
  done
noncomputable def ct_law_1 : FG := (tN 3)
noncomputable def cc_law_1 : FT := fYes
noncomputable def cf_law_1 : FE := (fCall fn_law_right false (fCons (fVar 2) fNil))
noncomputable def ft_law_1 : FG := (tN 1)
noncomputable def fu_law_1 : FS := (sSq (sSet (fCall fn_law_box true (fCons (fVar 0) (fCons (fVar 1) fNil))) (tN 2))
    (sIte (fNotT (fTst (fCl clAll (fCons (fLc (iRg1 (fCons (fC (.int 3)) fNil)) ct_law_1 cc_law_1 cf_law_1 [3]) fNil)))) (sRt (fC (.bool false))) sNx))
noncomputable def b_law : FS :=
  (sSq (sFr (iRg1 (fCons (fOp opAdd (fC (.int 1)) (fCl clMin (fCons (fC (.int 3)) (fCons (fCl clLen (fCons (fVar 0) fNil)) fNil)))) fNil)) ft_law_1 fu_law_1)
  (sRt (fC (.bool true))))
noncomputable def fn_law : Fn := mkFn 4 b_law
theorem law_true (ns : List Int) : fn_law [.s ns] [] = .ok (.dat (.bool true)) [] := law_for (bd := bdMin 3) 3 2200 (by decide) (by decide) (fun n bx hn h => right_ok (by omega) h) ns (bdMin_ok 3 (by decide) ns _ rfl)
end DL
end
set_option Elab.async false
set_option linter.all false
set_option maxRecDepth 100000
set_option maxHeartbeats 4000000
set_option autoImplicit false
namespace LawP
open PySem PySem.Spec PyProof.Rows L2 DL
def topS (i : Nat) : Stmt := PySem.Challenge.pw_overlooks_k03_sights_and_exchanges.main.body.getD i (.Pass ⟨0, 0, 0, 0⟩)
def clsM (i j : Nat) : Stmt := match topS i with
  | .ClassDef _ _ _ b _ _ _ _ _ _ _ => b.getD j (.Pass ⟨0, 0, 0, 0⟩)
  | s => s
abbrev s_place_of : Stmt := topS 6
abbrev N_place_of : List Str := ["row", "height"]
theorem sc_place_of : FnScope N_place_of ["row", "height"] (defScope s_place_of) := ⟨rfl, rfl, rfl, by decide +kernel, rfl, by decide +kernel, by decide +kernel⟩
abbrev s_are_lower : Stmt := topS 8
abbrev N_are_lower : List Str := ["row", "start", "end", "height", "other"]
theorem sc_are_lower : FnScope N_are_lower ["row", "start", "end", "height"] (defScope s_are_lower) := ⟨rfl, rfl, rfl, by decide +kernel, rfl, by decide +kernel, by decide +kernel⟩
abbrev s_sees_at : Stmt := topS 9
abbrev N_sees_at : List Str := ["row", "i", "j"]
theorem sc_sees_at : FnScope N_sees_at ["row", "i", "j"] (defScope s_sees_at) := ⟨rfl, rfl, rfl, by decide +kernel, rfl, by decide +kernel, by decide +kernel⟩
abbrev s_sees : Stmt := topS 10
abbrev N_sees : List Str := ["row", "one", "other", "places"]
theorem sc_sees : FnScope N_sees ["row", "one", "other"] (defScope s_sees) := ⟨rfl, rfl, rfl, by decide +kernel, rfl, by decide +kernel, by decide +kernel⟩
abbrev s_sights : Stmt := topS 11
abbrev N_sights : List Str := ["row", "found", "i", "j"]
theorem sc_sights : FnScope N_sights ["row"] (defScope s_sights) := ⟨rfl, rfl, rfl, by decide +kernel, rfl, by decide +kernel, by decide +kernel⟩
abbrev s_exchanges : Stmt := topS 12
abbrev N_exchanges : List Str := ["row", "i", "j"]
theorem sc_exchanges : FnScope N_exchanges ["row"] (defScope s_exchanges) := ⟨rfl, rfl, rfl, by decide +kernel, rfl, by decide +kernel, by decide +kernel⟩
abbrev s_look_exchange : Stmt := topS 13
abbrev N_look_exchange : List Str := ["row", "pair", "i", "j"]
theorem sc_look_exchange : FnScope N_look_exchange ["row", "pair"] (defScope s_look_exchange) := ⟨rfl, rfl, rfl, by decide +kernel, rfl, by decide +kernel, by decide +kernel⟩
abbrev s_swapped : Stmt := topS 14
abbrev N_swapped : List Str := ["row", "pair", "i", "j"]
theorem sc_swapped : FnScope N_swapped ["row", "pair"] (defScope s_swapped) := ⟨rfl, rfl, rfl, by decide +kernel, rfl, by decide +kernel, by decide +kernel⟩
abbrev s_exchanged : Stmt := topS 15
abbrev N_exchanged : List Str := ["row", "pair"]
theorem sc_exchanged : FnScope N_exchanged ["row", "pair"] (defScope s_exchanged) := ⟨rfl, rfl, rfl, by decide +kernel, rfl, by decide +kernel, by decide +kernel⟩
abbrev s_law_cell_at : Stmt := topS 17
abbrev N_law_cell_at : List Str := ["_law_script", "_law_k"]
theorem sc_law_cell_at : FnScope N_law_cell_at ["_law_script", "_law_k"] (defScope s_law_cell_at) := ⟨rfl, rfl, rfl, by decide +kernel, rfl, by decide +kernel, by decide +kernel⟩
abbrev s_law_box : Stmt := topS 18
abbrev N_law_box : List Str := ["_law_script", "_law_k", "_law_core"]
theorem sc_law_box : FnScope N_law_box ["_law_script", "_law_k"] (defScope s_law_box) := ⟨rfl, rfl, rfl, by decide +kernel, rfl, by decide +kernel, by decide +kernel⟩
abbrev s_law_take : Stmt := topS 19
abbrev N_law_take : List Str := ["_law_box_here", "_law_below", "_law_found", "_law_once", "_law_twice"]
theorem sc_law_take : FnScope N_law_take ["_law_box_here", "_law_below"] (defScope s_law_take) := ⟨rfl, rfl, rfl, by decide +kernel, rfl, by decide +kernel, by decide +kernel⟩
abbrev s_law_of : Stmt := topS 20
abbrev N_law_of : List Str := ["_law_box_here", "_law_some"]
theorem sc_law_of : FnScope N_law_of ["_law_box_here", "_law_some"] (defScope s_law_of) := ⟨rfl, rfl, rfl, by decide +kernel, rfl, by decide +kernel, by decide +kernel⟩
abbrev s_law_same : Stmt := topS 21
abbrev N_law_same : List Str := ["_law_found", "_law_due", "_law_a", "_law_b"]
theorem sc_law_same : FnScope N_law_same ["_law_found", "_law_due"] (defScope s_law_same) := ⟨rfl, rfl, rfl, by decide +kernel, rfl, by decide +kernel, by decide +kernel⟩
abbrev s_law_strewn : Stmt := topS 22
abbrev N_law_strewn : List Str := ["_law_box_here", "_law_some", "_law_left", "_law_found"]
theorem sc_law_strewn : FnScope N_law_strewn ["_law_box_here", "_law_some"] (defScope s_law_strewn) := ⟨rfl, rfl, rfl, by decide +kernel, rfl, by decide +kernel, by decide +kernel⟩
abbrev s_law_souls : Stmt := topS 23
abbrev N_law_souls : List Str := ["_law_box_here", "_law_count", "_law_found", "_law_top", "_law_k", "_law_soul"]
theorem sc_law_souls : FnScope N_law_souls ["_law_box_here", "_law_count"] (defScope s_law_souls) := ⟨rfl, rfl, rfl, by decide +kernel, rfl, by decide +kernel, by decide +kernel⟩
abbrev s_law_crowd : Stmt := topS 24
abbrev N_law_crowd : List Str := ["_law_box_here", "_law_most", "_law_souls_here", "_law_found", "_law_soul"]
theorem sc_law_crowd : FnScope N_law_crowd ["_law_box_here", "_law_most"] (defScope s_law_crowd) := ⟨rfl, rfl, rfl, by decide +kernel, rfl, by decide +kernel, by decide +kernel⟩
abbrev s_law_sees : Stmt := topS 25
abbrev N_law_sees : List Str := ["_law_crowd_here", "_law_i", "_law_j", "_law_soul"]
theorem sc_law_sees : FnScope N_law_sees ["_law_crowd_here", "_law_i", "_law_j"] (defScope s_law_sees) := ⟨rfl, rfl, rfl, by decide +kernel, rfl, by decide +kernel, by decide +kernel⟩
abbrev s_law_swaps : Stmt := topS 26
abbrev N_law_swaps : List Str := ["_law_crowd_here", "_law_found", "_law_i", "_law_j"]
theorem sc_law_swaps : FnScope N_law_swaps ["_law_crowd_here"] (defScope s_law_swaps) := ⟨rfl, rfl, rfl, by decide +kernel, rfl, by decide +kernel, by decide +kernel⟩
abbrev s_law_turned : Stmt := topS 27
abbrev N_law_turned : List Str := ["_law_crowd_here", "_law_swap", "_law_i", "_law_j"]
theorem sc_law_turned : FnScope N_law_turned ["_law_crowd_here", "_law_swap"] (defScope s_law_turned) := ⟨rfl, rfl, rfl, by decide +kernel, rfl, by decide +kernel, by decide +kernel⟩
abbrev s_law_told : Stmt := topS 28
abbrev N_law_told : List Str := ["_law_crowd_here", "_law_swap", "_law_found", "_law_caught", "error", "_law_fine"]
theorem sc_law_told : FnScope N_law_told ["_law_crowd_here", "_law_swap"] (defScope s_law_told) := ⟨rfl, rfl, rfl, by decide +kernel, rfl, by decide +kernel, by decide +kernel⟩
abbrev s_law_seen : Stmt := topS 29
abbrev N_law_seen : List Str := ["_law_crowd_here", "_law_a", "_law_b", "_law_found", "_law_caught", "error", "_law_fine"]
theorem sc_law_seen : FnScope N_law_seen ["_law_crowd_here", "_law_a", "_law_b"] (defScope s_law_seen) := ⟨rfl, rfl, rfl, by decide +kernel, rfl, by decide +kernel, by decide +kernel⟩
abbrev s_law_sight_right : Stmt := topS 30
abbrev N_law_sight_right : List Str := ["_law_crowd_here", "_law_listed", "_law_a", "_law_b", "_law_due", "_law_told_here", "_law_i", "_law_j", "_law_its"]
theorem sc_law_sight_right : FnScope N_law_sight_right ["_law_crowd_here", "_law_listed", "_law_a", "_law_b"] (defScope s_law_sight_right) := ⟨rfl, rfl, rfl, by decide +kernel, rfl, by decide +kernel, by decide +kernel⟩
abbrev s_law_right : Stmt := topS 31
abbrev N_law_right : List Str := ["_law_box_here", "_law_crowd_here", "_law_listed", "_law_swaps_here", "_law_due", "_law_i", "_law_found", "_law_j", "_law_told_here", "_law_some", "_law_a", "_law_b", "_law_its"]
theorem sc_law_right : FnScope N_law_right ["_law_box_here"] (defScope s_law_right) := ⟨rfl, rfl, rfl, by decide +kernel, rfl, by decide +kernel, by decide +kernel⟩
abbrev s_law : Stmt := topS 32
abbrev N_law : List Str := ["_law_script", "_law_k", "_law_box_here", "_law_turn"]
theorem sc_law : FnScope N_law ["_law_script"] (defScope s_law) := ⟨rfl, rfl, rfl, by decide +kernel, rfl, by decide +kernel, by decide +kernel⟩
abbrev si_Blocked : Stmt := clsM 3 0
theorem sci_Blocked : FnScope ["self", "pair"] ["self", "pair"] (defScope si_Blocked) := ⟨rfl, rfl, rfl, by decide +kernel, rfl, by decide +kernel, by decide +kernel⟩
abbrev si_NoPerson : Stmt := clsM 1 0
theorem sci_NoPerson : FnScope ["self", "height"] ["self", "height"] (defScope si_NoPerson) := ⟨rfl, rfl, rfl, by decide +kernel, rfl, by decide +kernel, by decide +kernel⟩
structure Fs (K : PySem.W.Frag) (mg : Str → Option Value) where
  cl : Str → Addr
  f_place_of : Addr
  d_place_of : FuncData
  F_place_of : Fun K "place_of" "place_of" s_place_of f_place_of d_place_of
  m_place_of : mg "place_of" = some (.ref f_place_of)
  b_place_of : Binds K d_place_of ["row", "height"] []
  f_are_lower : Addr
  d_are_lower : FuncData
  F_are_lower : Fun K "are_lower" "are_lower" s_are_lower f_are_lower d_are_lower
  m_are_lower : mg "are_lower" = some (.ref f_are_lower)
  b_are_lower : Binds K d_are_lower ["row", "start", "end", "height"] []
  f_sees_at : Addr
  d_sees_at : FuncData
  F_sees_at : Fun K "sees_at" "sees_at" s_sees_at f_sees_at d_sees_at
  m_sees_at : mg "sees_at" = some (.ref f_sees_at)
  b_sees_at : Binds K d_sees_at ["row", "i", "j"] []
  f_sees : Addr
  d_sees : FuncData
  F_sees : Fun K "sees" "sees" s_sees f_sees d_sees
  m_sees : mg "sees" = some (.ref f_sees)
  b_sees : Binds K d_sees ["row", "one", "other"] []
  f_sights : Addr
  d_sights : FuncData
  F_sights : Fun K "sights" "sights" s_sights f_sights d_sights
  m_sights : mg "sights" = some (.ref f_sights)
  b_sights : Binds K d_sights ["row"] []
  f_exchanges : Addr
  d_exchanges : FuncData
  F_exchanges : Fun K "exchanges" "exchanges" s_exchanges f_exchanges d_exchanges
  m_exchanges : mg "exchanges" = some (.ref f_exchanges)
  b_exchanges : Binds K d_exchanges ["row"] []
  f_look_exchange : Addr
  d_look_exchange : FuncData
  F_look_exchange : Fun K "look_exchange" "look_exchange" s_look_exchange f_look_exchange d_look_exchange
  m_look_exchange : mg "look_exchange" = some (.ref f_look_exchange)
  b_look_exchange : Binds K d_look_exchange ["row", "pair"] []
  f_swapped : Addr
  d_swapped : FuncData
  F_swapped : Fun K "swapped" "swapped" s_swapped f_swapped d_swapped
  m_swapped : mg "swapped" = some (.ref f_swapped)
  b_swapped : Binds K d_swapped ["row", "pair"] []
  f_exchanged : Addr
  d_exchanged : FuncData
  F_exchanged : Fun K "exchanged" "exchanged" s_exchanged f_exchanged d_exchanged
  m_exchanged : mg "exchanged" = some (.ref f_exchanged)
  b_exchanged : Binds K d_exchanged ["row", "pair"] []
  f_law_cell_at : Addr
  d_law_cell_at : FuncData
  F_law_cell_at : Fun K "_law_cell_at" "_law_cell_at" s_law_cell_at f_law_cell_at d_law_cell_at
  m_law_cell_at : mg "_law_cell_at" = some (.ref f_law_cell_at)
  b_law_cell_at : Binds K d_law_cell_at ["_law_script", "_law_k"] []
  f_law_box : Addr
  d_law_box : FuncData
  F_law_box : Fun K "_law_box" "_law_box" s_law_box f_law_box d_law_box
  m_law_box : mg "_law_box" = some (.ref f_law_box)
  b_law_box : Binds K d_law_box ["_law_script", "_law_k"] []
  f_law_take : Addr
  d_law_take : FuncData
  F_law_take : Fun K "_law_take" "_law_take" s_law_take f_law_take d_law_take
  m_law_take : mg "_law_take" = some (.ref f_law_take)
  b_law_take : Binds K d_law_take ["_law_box_here", "_law_below"] []
  f_law_of : Addr
  d_law_of : FuncData
  F_law_of : Fun K "_law_of" "_law_of" s_law_of f_law_of d_law_of
  m_law_of : mg "_law_of" = some (.ref f_law_of)
  b_law_of : Binds K d_law_of ["_law_box_here", "_law_some"] []
  f_law_same : Addr
  d_law_same : FuncData
  F_law_same : Fun K "_law_same" "_law_same" s_law_same f_law_same d_law_same
  m_law_same : mg "_law_same" = some (.ref f_law_same)
  b_law_same : Binds K d_law_same ["_law_found", "_law_due"] []
  f_law_strewn : Addr
  d_law_strewn : FuncData
  F_law_strewn : Fun K "_law_strewn" "_law_strewn" s_law_strewn f_law_strewn d_law_strewn
  m_law_strewn : mg "_law_strewn" = some (.ref f_law_strewn)
  b_law_strewn : Binds K d_law_strewn ["_law_box_here", "_law_some"] []
  f_law_souls : Addr
  d_law_souls : FuncData
  F_law_souls : Fun K "_law_souls" "_law_souls" s_law_souls f_law_souls d_law_souls
  m_law_souls : mg "_law_souls" = some (.ref f_law_souls)
  b_law_souls : Binds K d_law_souls ["_law_box_here", "_law_count"] []
  f_law_crowd : Addr
  d_law_crowd : FuncData
  F_law_crowd : Fun K "_law_crowd" "_law_crowd" s_law_crowd f_law_crowd d_law_crowd
  m_law_crowd : mg "_law_crowd" = some (.ref f_law_crowd)
  b_law_crowd : Binds K d_law_crowd ["_law_box_here", "_law_most"] []
  f_law_sees : Addr
  d_law_sees : FuncData
  F_law_sees : Fun K "_law_sees" "_law_sees" s_law_sees f_law_sees d_law_sees
  m_law_sees : mg "_law_sees" = some (.ref f_law_sees)
  b_law_sees : Binds K d_law_sees ["_law_crowd_here", "_law_i", "_law_j"] []
  f_law_swaps : Addr
  d_law_swaps : FuncData
  F_law_swaps : Fun K "_law_swaps" "_law_swaps" s_law_swaps f_law_swaps d_law_swaps
  m_law_swaps : mg "_law_swaps" = some (.ref f_law_swaps)
  b_law_swaps : Binds K d_law_swaps ["_law_crowd_here"] []
  f_law_turned : Addr
  d_law_turned : FuncData
  F_law_turned : Fun K "_law_turned" "_law_turned" s_law_turned f_law_turned d_law_turned
  m_law_turned : mg "_law_turned" = some (.ref f_law_turned)
  b_law_turned : Binds K d_law_turned ["_law_crowd_here", "_law_swap"] []
  f_law_told : Addr
  d_law_told : FuncData
  F_law_told : Fun K "_law_told" "_law_told" s_law_told f_law_told d_law_told
  m_law_told : mg "_law_told" = some (.ref f_law_told)
  b_law_told : Binds K d_law_told ["_law_crowd_here", "_law_swap"] []
  f_law_seen : Addr
  d_law_seen : FuncData
  F_law_seen : Fun K "_law_seen" "_law_seen" s_law_seen f_law_seen d_law_seen
  m_law_seen : mg "_law_seen" = some (.ref f_law_seen)
  b_law_seen : Binds K d_law_seen ["_law_crowd_here", "_law_a", "_law_b"] []
  f_law_sight_right : Addr
  d_law_sight_right : FuncData
  F_law_sight_right : Fun K "_law_sight_right" "_law_sight_right" s_law_sight_right f_law_sight_right d_law_sight_right
  m_law_sight_right : mg "_law_sight_right" = some (.ref f_law_sight_right)
  b_law_sight_right : Binds K d_law_sight_right ["_law_crowd_here", "_law_listed", "_law_a", "_law_b"] []
  f_law_right : Addr
  d_law_right : FuncData
  F_law_right : Fun K "_law_right" "_law_right" s_law_right f_law_right d_law_right
  m_law_right : mg "_law_right" = some (.ref f_law_right)
  b_law_right : Binds K d_law_right ["_law_box_here"] []
  f_law : Addr
  d_law : FuncData
  F_law : Fun K "law" "law" s_law f_law d_law
  m_law : mg "law" = some (.ref f_law)
  b_law : Binds K d_law ["_law_script"] []
  m_NoPerson : mg "NoPerson" = some (.ref (cl "NoPerson"))
  m_NoPlace : mg "NoPlace" = some (.ref (cl "NoPlace"))
  m_Blocked : mg "Blocked" = some (.ref (cl "Blocked"))
  m_Barred : mg "Barred" = some (.ref (cl "Barred"))
  m_LookupError : mg "LookupError" = none
  m_RuntimeError : mg "RuntimeError" = none
  v_LookupError : PySem.W.findCls K (.type "LookupError") (.type "type") "__init__" = some (.val (.builtin "LookupError.__init__"))
  v_RuntimeError : PySem.W.findCls K (.type "RuntimeError") (.type "type") "__init__" = some (.val (.builtin "RuntimeError.__init__"))
  T_Blocked : OexB K (cl "Blocked") "RuntimeError" "RuntimeError.__new__" "RuntimeError.__init__" [.type "RuntimeError", .type "Exception", .type "BaseException", .type "object"]
  n_Blocked : PySem.W.findIn K (.ref (cl "Blocked")) "pair" = some none
  fi_Blocked : Addr
  di_Blocked : FuncData
  Fi_Blocked : Fun K "__init__" "Blocked.__init__" si_Blocked fi_Blocked di_Blocked
  bi_Blocked : Binds K di_Blocked ["self", "pair"] []
  ii_Blocked : PySem.W.findIn K (.ref (cl "Blocked")) "__init__" = some (some (.ref fi_Blocked))
  ti_Blocked : PySem.W.typeIn K (.ref fi_Blocked) = some (.type "function")
  T_NoPerson : OexB K (cl "NoPerson") "LookupError" "LookupError.__new__" "LookupError.__init__" [.type "LookupError", .type "Exception", .type "BaseException", .type "object"]
  n_NoPerson : PySem.W.findIn K (.ref (cl "NoPerson")) "height" = some none
  fi_NoPerson : Addr
  di_NoPerson : FuncData
  Fi_NoPerson : Fun K "__init__" "NoPerson.__init__" si_NoPerson fi_NoPerson di_NoPerson
  bi_NoPerson : Binds K di_NoPerson ["self", "height"] []
  ii_NoPerson : PySem.W.findIn K (.ref (cl "NoPerson")) "__init__" = some (some (.ref fi_NoPerson))
  ti_NoPerson : PySem.W.typeIn K (.ref fi_NoPerson) = some (.type "function")
  x_0 : ∀ c b, (tbl [("Blocked", true), ("NoPerson", true)]) c = some b → PySem.W.exmAny K (.ref (cl c)) (([.inl "Barred", .inl "Blocked", .inl "NoPerson", .inl "NoPlace"] : List (Str ⊕ String)).map (clW cl)) = some b
  k_1 : ∀ c b, (tbl [("Blocked", false), ("NoPerson", true)]) c = some b → ExcC K (cl c) ∧ PySem.W.kitAny K (.ref (cl c)) (([.inl "Barred", .inl "NoPerson", .inl "NoPlace"] : List (Str ⊕ String)).map (clW cl)) = some b
  z_1 : ∀ b, some false = some b → PySem.W.kitAny K (.type "NoneType") (([.inl "Barred", .inl "NoPerson", .inl "NoPlace"] : List (Str ⊕ String)).map (clW cl)) = some b
  k_2 : ∀ c b, (tbl [("Blocked", true), ("NoPerson", false)]) c = some b → ExcC K (cl c) ∧ PySem.W.kitOne K (.ref (cl c)) (clW cl (.inl "Blocked")) = some b
  z_2 : ∀ b, some false = some b → PySem.W.kitOne K (.type "NoneType") (clW cl (.inl "Blocked")) = some b
  k_3 : ∀ c b, (tbl [("Blocked", true), ("NoPerson", false)]) c = some b → ExcC K (cl c) ∧ PySem.W.kitOne K (.ref (cl c)) (clW cl (.inr "RuntimeError")) = some b
  z_3 : ∀ b, some false = some b → PySem.W.kitOne K (.type "NoneType") (clW cl (.inr "RuntimeError")) = some b
  k_4 : ∀ c b, (tbl [("Blocked", true), ("NoPerson", false)]) c = some b → ExcC K (cl c) ∧ PySem.W.kitAny K (.ref (cl c)) (([.inl "Barred", .inl "Blocked", .inl "NoPlace"] : List (Str ⊕ String)).map (clW cl)) = some b
  z_4 : ∀ b, some false = some b → PySem.W.kitAny K (.type "NoneType") (([.inl "Barred", .inl "Blocked", .inl "NoPlace"] : List (Str ⊕ String)).map (clW cl)) = some b
  k_5 : ∀ c b, (tbl [("Blocked", false), ("NoPerson", true)]) c = some b → ExcC K (cl c) ∧ PySem.W.kitOne K (.ref (cl c)) (clW cl (.inl "NoPerson")) = some b
  z_5 : ∀ b, some false = some b → PySem.W.kitOne K (.type "NoneType") (clW cl (.inl "NoPerson")) = some b
  k_6 : ∀ c b, (tbl [("Blocked", false), ("NoPerson", true)]) c = some b → ExcC K (cl c) ∧ PySem.W.kitOne K (.ref (cl c)) (clW cl (.inr "LookupError")) = some b
  z_6 : ∀ b, some false = some b → PySem.W.kitOne K (.type "NoneType") (clW cl (.inr "LookupError")) = some b
  at_height : ∀ c ∈ (["NoPerson"] : List Str), XfC K (cl c) ∧ PySem.W.findIn K (.ref (cl c)) "height" = some none
  at_pair : ∀ c ∈ (["Blocked"] : List Str), XfC K (cl c) ∧ PySem.W.findIn K (.ref (cl c)) "pair" = some none
  kb_exchanged_1_0 : KBinds K d_exchanged ["row", "pair"] ["pair", "row"] (gK [1, 0]) (gK [1, 0])
  kb_sees_2_1_0 : KBinds K d_sees ["row", "one", "other"] ["other", "one", "row"] (gK [2, 1, 0]) (gK [2, 1, 0])
  kb_exchanges_0 : KBinds K d_exchanges ["row"] ["row"] (gK [0]) (gK [0])
  kb_sights_0 : KBinds K d_sights ["row"] ["row"] (gK [0]) (gK [0])
  m_len : mg "len" = none
  m_abs : mg "abs" = none
  m_int : mg "int" = none
  m_max : mg "max" = none
  m_min : mg "min" = none
  m_list : mg "list" = none
  m_tuple : mg "tuple" = none
  m_all : mg "all" = none
  m_sorted : mg "sorted" = none
  m_zip : mg "zip" = none
  m_range : mg "range" = none
  m_isinstance : mg "isinstance" = none
  m_str : mg "str" = none
  m_bool : mg "bool" = none
section
variable [Tx] {P : Program} {w : World} {K : PySem.W.Frag} {mg : Str → Option Value} {base : Heap}
theorem okx_Blocked (Y : Fs K mg) : FnG P w K mg base (L2.CX P w) 1 Y.fi_Blocked Y.di_Blocked ["self", "pair"] (spI K (Y.cl "Blocked") "pair") :=
  init_ok (k := 0) Y.Fi_Blocked sci_Blocked Y.T_Blocked Y.n_Blocked (fun cdv A outer s H E hr => ⟨tJ2 K "no exchange: ", jsok2 (by decide), pss_cons (ps_expr (pe_initB (by rfl) Y.m_RuntimeError (by decide +kernel) rfl rfl rfl Y.v_RuntimeError (pa_cons (pe_var (i := 0) rfl (.inl rfl)) (pa_cons (pe_joined (.cons pe_str (.cons (pe_fmtS hr (pe_var (i := 1) rfl (.inl rfl))) .nil))) pa_nil rfl) rfl))) (pss_one (ps_ostB (pe_var (i := 0) rfl (.inl rfl)) (pe_var (i := 1) rfl (.inl rfl))))⟩)
theorem okx_NoPerson (Y : Fs K mg) : FnG P w K mg base (L2.CX P w) 1 Y.fi_NoPerson Y.di_NoPerson ["self", "height"] (spI K (Y.cl "NoPerson") "height") :=
  init_ok (k := 0) Y.Fi_NoPerson sci_NoPerson Y.T_NoPerson Y.n_NoPerson (fun cdv A outer s H E hr => ⟨tJ2 K "there is no person of height ", jsok2 (by decide), pss_cons (ps_expr (pe_initB (by rfl) Y.m_LookupError (by decide +kernel) rfl rfl rfl Y.v_LookupError (pa_cons (pe_var (i := 0) rfl (.inl rfl)) (pa_cons (pe_joined (.cons pe_str (.cons (pe_fmtS hr (pe_var (i := 1) rfl (.inl rfl))) .nil))) pa_nil rfl) rfl))) (pss_one (ps_ostB (pe_var (i := 0) rfl (.inl rfl)) (pe_var (i := 1) rfl (.inl rfl))))⟩)
theorem ok_place_of (Y : Fs K mg) : FnG P w K mg base (L2.CX P w) 3 Y.f_place_of Y.d_place_of ["row", "height"] (spF K Y.cl 2 fn_place_of) := by
  refine fnFx (k := 2) Y.F_place_of sc_place_of (fun cdv A outer s H E ρ dx hcl hr tk => ?_)
  obtain ⟨rB, rO, rP, rC⟩ := ρ
  obtain rfl : rC = Y.cl := hcl
  exact ⟨_, (qss_cons (qs_if (qt_notIn hr.un65 (q_var 1) (q_var 0)) (qss_one (qs_raise1 (f := "height") rfl tk (pmk_oexB Y.T_NoPerson Y.ii_NoPerson Y.ti_NoPerson (okx_NoPerson Y) (hr.mono (by decide)) Y.bi_NoPerson passF (by rfl) Y.m_NoPerson (qa_cons (q_var 1) qa_nil)))) qss_nil)
      (qss_one (qs_ret (q_index hr.un65 (q_list rfl (by rfl) Y.m_list (qa_cons (q_var 0) qa_nil)) (qa_cons (q_var 1) qa_nil))))), rfl⟩
theorem ok_are_lower (Y : Fs K mg) : FnG P w K mg base (L2.CX P w) 1 Y.f_are_lower Y.d_are_lower ["row", "start", "end", "height"] (spF K Y.cl 4 fn_are_lower) := by
  refine fnFx (k := 0) Y.F_are_lower sc_are_lower (fun cdv A outer s H E ρ dx hcl hr tk => ?_)
  obtain ⟨rB, rO, rP, rC⟩ := ρ
  obtain rfl : rC = Y.cl := hcl
  exact ⟨_, (qss_one (qs_ret (q_all rfl (by rfl) Y.m_all (qa_cons (q_lc rfl sc_are_lower.nd (qi_seq (q_sl (q_var 0) (qo_some (q_var 1)) (qo_some (q_var 2)))) (blkOk_by (own := [("other", 4)]) (N := N_are_lower) (sc := defScope s_are_lower) (by decide +kernel)) (fun _ _ _ _ _ => (qg_name (ws := [4]) 4 sc_are_lower.nd (by decide) rfl (.inl rfl))) (fun _ _ _ _ _ => qts_nil) (fun _ _ _ _ _ => (q_lt (q_var 4) (q_var 3)))) qa_nil)))), rfl⟩
theorem ok_sees_at (Y : Fs K mg) : FnG P w K mg base (L2.CX P w) 2 Y.f_sees_at Y.d_sees_at ["row", "i", "j"] (spF K Y.cl 3 fn_sees_at) := by
  refine fnFx (k := 1) Y.F_sees_at sc_sees_at (fun cdv A outer s H E ρ dx hcl hr tk => ?_)
  obtain ⟨rB, rO, rP, rC⟩ := ρ
  obtain rfl : rC = Y.cl := hcl
  have G_are_lower := ok_are_lower (P := P) (w := w) (base := base) Y
  exact ⟨_, (qss_one (qs_ret (q_call true tk G_are_lower (hr.mono (by decide)) (by rfl) Y.m_are_lower Y.F_are_lower.kp Y.b_are_lower (qa_cons (q_var 0) (qa_cons (q_add (q_var 1) q_int) (qa_cons (q_var 2) (qa_cons (q_min rfl (by rfl) Y.m_min (qa_cons (q_ix hr.un1 (q_var 0) (q_var 1)) (qa_cons (q_ix hr.un1 (q_var 0) (q_var 2)) qa_nil))) qa_nil)))) (nArgs_cons (nArgs_cons (nArgs_cons (nArgs_cons nArgs_nil))))))), rfl⟩
theorem ok_sees (Y : Fs K mg) : FnG P w K mg base (L2.CX P w) 4 Y.f_sees Y.d_sees ["row", "one", "other"] (spF K Y.cl 3 fn_sees) := by
  refine fnFx (k := 3) Y.F_sees sc_sees (fun cdv A outer s H E ρ dx hcl hr tk => ?_)
  obtain ⟨rB, rO, rP, rC⟩ := ρ
  obtain rfl : rC = Y.cl := hcl
  have G_place_of := ok_place_of (P := P) (w := w) (base := base) Y
  have G_sees_at := ok_sees_at (P := P) (w := w) (base := base) Y
  exact ⟨_, (qss_cons (qs_set (i := 3) sc_sees.nd rfl (.inl rfl) (q_lst (qa_cons (q_call false tk G_place_of (hr.mono (by decide)) (by rfl) Y.m_place_of Y.F_place_of.kp Y.b_place_of (qa_cons (q_var 0) (qa_cons (q_var 1) qa_nil)) (nArgs_cons (nArgs_cons nArgs_nil))) (qa_cons (q_call false tk G_place_of (hr.mono (by decide)) (by rfl) Y.m_place_of Y.F_place_of.kp Y.b_place_of (qa_cons (q_var 0) (qa_cons (q_var 2) qa_nil)) (nArgs_cons (nArgs_cons nArgs_nil))) qa_nil))))
      (qss_one (qs_ret (q_call true tk G_sees_at (hr.mono (by decide)) (by rfl) Y.m_sees_at Y.F_sees_at.kp Y.b_sees_at (qa_cons (q_var 0) (qa_cons (q_minL rfl (by rfl) Y.m_min (qa_cons (q_var 3) qa_nil)) (qa_cons (q_maxL rfl (by rfl) Y.m_max (qa_cons (q_var 3) qa_nil)) qa_nil))) (nArgs_cons (nArgs_cons (nArgs_cons nArgs_nil))))))), rfl⟩
theorem ok_sights (Y : Fs K mg) : FnG P w K mg base (L2.CX P w) 3 Y.f_sights Y.d_sights ["row"] (spF K Y.cl 1 fn_sights) := by
  refine fnFx (k := 2) Y.F_sights sc_sights (fun cdv A outer s H E ρ dx hcl hr tk => ?_)
  obtain ⟨rB, rO, rP, rC⟩ := ρ
  obtain rfl : rC = Y.cl := hcl
  have G_sees_at := ok_sees_at (P := P) (w := w) (base := base) Y
  exact ⟨_, (qss_cons (qs_set (i := 1) sc_sights.nd rfl (.inl rfl) (q_lstO qa_nil))
      (qss_cons (qs_for PassesOwn.leaving rfl (qi_range1 (by rfl) Y.m_range (qa_cons (q_len rfl (by rfl) Y.m_len (qa_cons (q_var 0) qa_nil)) qa_nil)) (qg_name (ws := [2]) 2 sc_sights.nd (by decide) rfl (.inr rfl)) (qss_one (qs_expr (q_extend (q_var 1) (qa_cons (q_lc rfl sc_sights.nd (qi_range2 (by rfl) Y.m_range (qa_cons (q_add (q_var 2) q_int) (qa_cons (q_len rfl (by rfl) Y.m_len (qa_cons (q_var 0) qa_nil)) qa_nil))) (blkOk_by (own := [("j", 3)]) (N := N_sights) (sc := defScope s_sights) (by decide +kernel)) (fun _ _ _ _ _ => (qg_name (ws := [3]) 3 sc_sights.nd (by decide) rfl (.inl rfl))) (fun _ _ _ _ _ => (qts_one (qt_val (q_call false takes_no G_sees_at (hr.mono (by decide)) (by rfl) Y.m_sees_at Y.F_sees_at.kp Y.b_sees_at (qa_cons (q_var 0) (qa_cons (q_var 2) (qa_cons (q_var 3) qa_nil))) (nArgs_cons (nArgs_cons (nArgs_cons nArgs_nil))))))) (fun _ _ _ _ _ => (q_tup (qa_cons (q_var 2) (qa_cons (q_var 3) qa_nil))))) qa_nil)))))
      (qss_one (qs_ret (q_var 1))))), rfl⟩
theorem ok_exchanges (Y : Fs K mg) : FnG P w K mg base (L2.CX P w) 4 Y.f_exchanges Y.d_exchanges ["row"] (spF K Y.cl 1 fn_exchanges) := by
  refine fnFx (k := 3) Y.F_exchanges sc_exchanges (fun cdv A outer s H E ρ dx hcl hr tk => ?_)
  obtain ⟨rB, rO, rP, rC⟩ := ρ
  obtain rfl : rC = Y.cl := hcl
  have G_sights := ok_sights (P := P) (w := w) (base := base) Y
  exact ⟨_, (qss_one (qs_ret (q_lcO rfl sc_exchanges.nd (qi_seq (q_call false tk G_sights (hr.mono (by decide)) (by rfl) Y.m_sights Y.F_sights.kp Y.b_sights (qa_cons (q_var 0) qa_nil) (nArgs_cons nArgs_nil))) (blkOk_by (own := [("i", 1), ("j", 2)]) (N := N_exchanges) (sc := defScope s_exchanges) (by decide +kernel)) (fun _ _ _ _ _ => (qg_tupA (n := 2) rfl (qgs_cons (qg_name (ws := [1, 2]) 1 sc_exchanges.nd (by decide) rfl (.inl rfl)) (qgs_cons (qg_name (ws := [1, 2]) 2 sc_exchanges.nd (by decide) rfl (.inl rfl)) qgs_nil)))) (fun _ _ _ _ _ => (qts_one (qt_gt (q_var 2) (q_add (q_var 1) q_int)))) (fun _ _ _ _ _ => (q_tup (qa_cons (q_var 1) (qa_cons (q_var 2) qa_nil))))))), rfl⟩
theorem ok_look_exchange (Y : Fs K mg) : FnG P w K mg base (L2.CX P w) 3 Y.f_look_exchange Y.d_look_exchange ["row", "pair"] (spF K Y.cl 2 fn_look_exchange) := by
  refine fnFx (k := 2) Y.F_look_exchange sc_look_exchange (fun cdv A outer s H E ρ dx hcl hr tk => ?_)
  obtain ⟨rB, rO, rP, rC⟩ := ρ
  obtain rfl : rC = Y.cl := hcl
  have G_sees_at := ok_sees_at (P := P) (w := w) (base := base) Y
  exact ⟨_, (qss_cons (qs_asg (q_var 1) (qg_tupA (n := 2) rfl (qgs_cons (qg_name (ws := [2, 3]) 2 sc_look_exchange.nd (by decide) rfl (.inl rfl)) (qgs_cons (qg_name (ws := [2, 3]) 3 sc_look_exchange.nd (by decide) rfl (.inl rfl)) qgs_nil))))
      (qss_one (qs_if (qt_w (qw_or (qt_not (qt_lelt q_int (q_var 2) (q_sub (q_var 3) q_int))) (qw_or (qt_not (qt_lt (q_var 3) (q_len rfl (by rfl) Y.m_len (qa_cons (q_var 0) qa_nil)))) (qw_or1 (qt_not (qt_val (q_call false tk G_sees_at (hr.mono (by decide)) (by rfl) Y.m_sees_at Y.F_sees_at.kp Y.b_sees_at (qa_cons (q_var 0) (qa_cons (q_var 2) (qa_cons (q_var 3) qa_nil))) (nArgs_cons (nArgs_cons (nArgs_cons nArgs_nil)))))))))) (qss_one (qs_raise1 (f := "pair") rfl tk (pmk_oexB Y.T_Blocked Y.ii_Blocked Y.ti_Blocked (okx_Blocked Y) (hr.mono (by decide)) Y.bi_Blocked passF (by rfl) Y.m_Blocked (qa_cons (q_tup (qa_cons (q_var 2) (qa_cons (q_var 3) qa_nil))) qa_nil)))) qss_nil))), rfl⟩
theorem ok_swapped (Y : Fs K mg) : FnG P w K mg base (L2.CX P w) 1 Y.f_swapped Y.d_swapped ["row", "pair"] (spF K Y.cl 2 fn_swapped) := by
  refine fnFx (k := 0) Y.F_swapped sc_swapped (fun cdv A outer s H E ρ dx hcl hr tk => ?_)
  obtain ⟨rB, rO, rP, rC⟩ := ρ
  obtain rfl : rC = Y.cl := hcl
  exact ⟨_, (qss_cons (qs_asg (q_var 1) (qg_tupA (n := 2) rfl (qgs_cons (qg_name (ws := [2, 3]) 2 sc_swapped.nd (by decide) rfl (.inl rfl)) (qgs_cons (qg_name (ws := [2, 3]) 3 sc_swapped.nd (by decide) rfl (.inl rfl)) qgs_nil))))
      (qss_one (qs_ret (q_add (q_add (q_add (q_add (q_tuple rfl (by rfl) Y.m_tuple (qa_cons (q_sl (q_var 0) qo_none (qo_some (q_var 2))) qa_nil)) (q_tup (qa_cons (q_ix hr.un1 (q_var 0) (q_var 3)) qa_nil))) (q_tuple rfl (by rfl) Y.m_tuple (qa_cons (q_sl (q_var 0) (qo_some (q_add (q_var 2) q_int)) (qo_some (q_var 3))) qa_nil))) (q_tup (qa_cons (q_ix hr.un1 (q_var 0) (q_var 2)) qa_nil))) (q_tuple rfl (by rfl) Y.m_tuple (qa_cons (q_sl (q_var 0) (qo_some (q_add (q_var 3) q_int)) qo_none) qa_nil)))))), rfl⟩
theorem ok_exchanged (Y : Fs K mg) : FnG P w K mg base (L2.CX P w) 4 Y.f_exchanged Y.d_exchanged ["row", "pair"] (spF K Y.cl 2 fn_exchanged) := by
  refine fnFx (k := 3) Y.F_exchanged sc_exchanged (fun cdv A outer s H E ρ dx hcl hr tk => ?_)
  obtain ⟨rB, rO, rP, rC⟩ := ρ
  obtain rfl : rC = Y.cl := hcl
  have G_look_exchange := ok_look_exchange (P := P) (w := w) (base := base) Y
  have G_swapped := ok_swapped (P := P) (w := w) (base := base) Y
  exact ⟨_, (qss_cons (qs_expr (q_call false tk G_look_exchange (hr.mono (by decide)) (by rfl) Y.m_look_exchange Y.F_look_exchange.kp Y.b_look_exchange (qa_cons (q_var 0) (qa_cons (q_var 1) qa_nil)) (nArgs_cons (nArgs_cons nArgs_nil))))
      (qss_one (qs_ret (q_call true tk G_swapped (hr.mono (by decide)) (by rfl) Y.m_swapped Y.F_swapped.kp Y.b_swapped (qa_cons (q_var 0) (qa_cons (q_var 1) qa_nil)) (nArgs_cons (nArgs_cons nArgs_nil)))))), rfl⟩
theorem ok_law_cell_at (Y : Fs K mg) : FnG P w K mg base (L2.CX P w) 1 Y.f_law_cell_at Y.d_law_cell_at ["_law_script", "_law_k"] (spF K Y.cl 2 fn_law_cell_at) := by
  refine fnFx (k := 0) Y.F_law_cell_at sc_law_cell_at (fun cdv A outer s H E ρ dx hcl hr tk => ?_)
  obtain ⟨rB, rO, rP, rC⟩ := ρ
  obtain rfl : rC = Y.cl := hcl
  exact ⟨_, (qss_cons (qs_if (qt_lt (q_var 1) (q_len rfl (by rfl) Y.m_len (qa_cons (q_var 0) qa_nil))) (qss_one (qs_ret (q_ix hr.un1 (q_var 0) (q_var 1)))) qss_nil)
      (qss_one (qs_ret q_int))), rfl⟩
theorem ok_law_box (Y : Fs K mg) : FnG P w K mg base (L2.CX P w) 2 Y.f_law_box Y.d_law_box ["_law_script", "_law_k"] (spF K Y.cl 2 fn_law_box) := by
  refine fnFx (k := 1) Y.F_law_box sc_law_box (fun cdv A outer s H E ρ dx hcl hr tk => ?_)
  obtain ⟨rB, rO, rP, rC⟩ := ρ
  obtain rfl : rC = Y.cl := hcl
  have G_law_cell_at := ok_law_cell_at (P := P) (w := w) (base := base) Y
  exact ⟨_, (qss_cons (qs_set (i := 2) sc_law_box.nd rfl (.inl rfl) (q_call false tk G_law_cell_at (hr.mono (by decide)) (by rfl) Y.m_law_cell_at Y.F_law_cell_at.kp Y.b_law_cell_at (qa_cons (q_var 0) (qa_cons (q_var 1) qa_nil)) (nArgs_cons (nArgs_cons nArgs_nil))))
      (qss_one (qs_ret (q_lstO (qa_cons (q_mul (q_abs rfl (by rfl) Y.m_abs (qa_cons (q_var 2) qa_nil)) (q_intB rfl (by rfl) Y.m_int (qa_cons (q_ge (q_abs rfl (by rfl) Y.m_abs (qa_cons (q_var 2) qa_nil)) (q_pow q_int q_int)) qa_nil))) (qa_cons (q_add (q_add (q_mod (q_var 2) q_int) (q_mul q_int (q_var 1))) q_int) (qa_cons q_int qa_nil))))))), rfl⟩
theorem ok_law_take (Y : Fs K mg) : ∀ n : Nat, FnG P w K mg base (L2.CX P w) (n + 0) Y.f_law_take Y.d_law_take ["_law_box_here", "_law_below"] (spF K Y.cl 2 (fn_law_take n))
  | 0 => ⟨fun vs H Q E h => h.elim fun B h => h.elim fun O h => h.elim fun ps h => h.elim fun bx h => h.elim fun rs h => h.1, fun A fr s H as us vs Q E c e b v h => (h.elim fun B h => h.elim fun O h => h.elim fun ps h => h.elim fun bx h => h.elim fun rs h => (h.2.2.2.1 rfl).elim)⟩
  | n + 1 => by
    have R := ok_law_take Y n
    have z : n + 1 + 0 = (n + 0) + 1 := by omega
    rw [z]
    refine fnFx (k := n + 0) Y.F_law_take sc_law_take (fun cdv A outer s H E ρ dx hcl hr tk => ?_)
    obtain ⟨rB, rO, rP, rC⟩ := ρ
    obtain rfl : rC = Y.cl := hcl
    have G_law_take := R
    exact ⟨_, (qss_cons (qs_if (qt_gt (q_ix hr.un1 (q_var 0) q_int) q_int) (qss_cons (qs_set (i := 2) sc_law_take.nd rfl (.inl rfl) (q_mod (q_ix hr.un1 (q_var 0) q_int) (q_var 1)))
      (qss_cons (qs_asg (q_div (q_ix hr.un1 (q_var 0) q_int) (q_var 1)) (qg_subL (ws := []) (q_var 0) q_int))
      (qss_one (qs_ret (q_var 2))))) qss_nil)
      (qss_cons (qs_if (qt_gt (q_var 1) (q_pow q_int q_int)) (qss_one (qs_ret (q_mod (q_add (q_call false tk G_law_take (hr.mono (by omega)) (by rfl) Y.m_law_take Y.F_law_take.kp Y.b_law_take (qa_cons (q_var 0) (qa_cons (q_pow q_int q_int) qa_nil)) (nArgs_cons (nArgs_cons nArgs_nil))) (q_mul (q_pow q_int q_int) (q_call false tk G_law_take (hr.mono (by omega)) (by rfl) Y.m_law_take Y.F_law_take.kp Y.b_law_take (qa_cons (q_var 0) (qa_cons (q_add (q_div (q_var 1) (q_pow q_int q_int)) q_int) qa_nil)) (nArgs_cons (nArgs_cons nArgs_nil))))) (q_var 1)))) qss_nil)
      (qss_cons (qs_asg (q_add (q_ix hr.un1 (q_var 0) q_int) q_int) (qg_subL (ws := []) (q_var 0) q_int))
      (qss_cons (qs_set (i := 3) sc_law_take.nd rfl (.inl rfl) (q_mod (q_mul (q_add (q_ix hr.un1 (q_var 0) q_int) (q_mul q_int (q_ix hr.un1 (q_var 0) q_int))) (q_add q_int (q_ix hr.un1 (q_var 0) q_int))) q_int))
      (qss_cons (qs_set (i := 4) sc_law_take.nd rfl (.inl rfl) (q_mod (q_mul (q_add (q_add (q_var 3) (q_ix hr.un1 (q_var 0) q_int)) (q_div (q_ix hr.un1 (q_var 0) q_int) q_int)) (q_add (q_mod (q_var 3) q_int) q_int)) q_int))
      (qss_one (qs_ret (q_mod (q_div (q_mod (q_add (q_mul (q_var 4) q_int) (q_var 3)) q_int) q_int) (q_var 1))))))))), rfl⟩
theorem ok_law_of (Y : Fs K mg) : FnG P w K mg base (L2.CX P w) 5 Y.f_law_of Y.d_law_of ["_law_box_here", "_law_some"] (spF K Y.cl 2 fn_law_of) := by
  refine fnFx (k := 4) Y.F_law_of sc_law_of (fun cdv A outer s H E ρ dx hcl hr tk => ?_)
  obtain ⟨rB, rO, rP, rC⟩ := ρ
  obtain rfl : rC = Y.cl := hcl
  have G_law_take := ok_law_take (P := P) (w := w) (base := base) Y 4
  exact ⟨_, (qss_one (qs_ret (q_ix hr.un1 (q_var 1) (q_call false tk G_law_take (hr.mono (by decide)) (by rfl) Y.m_law_take Y.F_law_take.kp Y.b_law_take (qa_cons (q_var 0) (qa_cons (q_len rfl (by rfl) Y.m_len (qa_cons (q_var 1) qa_nil)) qa_nil)) (nArgs_cons (nArgs_cons nArgs_nil)))))), rfl⟩
theorem ok_law_same (Y : Fs K mg) : ∀ n : Nat, FnG P w K mg base (L2.CX P w) (n + 0) Y.f_law_same Y.d_law_same ["_law_found", "_law_due"] (spF K Y.cl 2 (fn_law_same n))
  | 0 => ⟨fun vs H Q E h => h.elim fun B h => h.elim fun O h => h.elim fun ps h => h.elim fun bx h => h.elim fun rs h => h.1, fun A fr s H as us vs Q E c e b v h => (h.elim fun B h => h.elim fun O h => h.elim fun ps h => h.elim fun bx h => h.elim fun rs h => (h.2.2.2.1 rfl).elim)⟩
  | n + 1 => by
    have R := ok_law_same Y n
    have z : n + 1 + 0 = (n + 0) + 1 := by omega
    rw [z]
    refine fnFx (k := n + 0) Y.F_law_same sc_law_same (fun cdv A outer s H E ρ dx hcl hr tk => ?_)
    obtain ⟨rB, rO, rP, rC⟩ := ρ
    obtain rfl : rC = Y.cl := hcl
    have G_law_same := R
    exact ⟨_, (qss_cons (qs_if (qt_val (q_isi2 (T := "list") (U := "tuple") (by first | exact .inl rfl | exact .inr (.inl rfl) | exact .inr (.inr (.inl rfl)) | exact .inr (.inr (.inr (.inl rfl))) | exact .inr (.inr (.inr (.inr (.inl rfl)))) | exact .inr (.inr (.inr (.inr (.inr rfl))))) (by first | exact .inl rfl | exact .inr (.inl rfl) | exact .inr (.inr (.inl rfl)) | exact .inr (.inr (.inr (.inl rfl))) | exact .inr (.inr (.inr (.inr (.inl rfl)))) | exact .inr (.inr (.inr (.inr (.inr rfl))))) (by rfl) Y.m_isinstance (by rfl) Y.m_list (by decide +kernel) (by rfl) Y.m_tuple (by decide +kernel) (q_var 1))) (qss_cons (qs_if (qt_w (qw_or (qt_ne hr.units (q_isi (T := "list") (by first | exact .inl rfl | exact .inr (.inl rfl) | exact .inr (.inr (.inl rfl)) | exact .inr (.inr (.inr (.inl rfl))) | exact .inr (.inr (.inr (.inr (.inl rfl)))) | exact .inr (.inr (.inr (.inr (.inr rfl))))) (by rfl) Y.m_isinstance (by rfl) Y.m_list (by decide +kernel) (q_var 0)) (q_isi (T := "list") (by first | exact .inl rfl | exact .inr (.inl rfl) | exact .inr (.inr (.inl rfl)) | exact .inr (.inr (.inr (.inl rfl))) | exact .inr (.inr (.inr (.inr (.inl rfl)))) | exact .inr (.inr (.inr (.inr (.inr rfl))))) (by rfl) Y.m_isinstance (by rfl) Y.m_list (by decide +kernel) (q_var 1))) (qw_or1 (qt_ne hr.units (q_isi (T := "tuple") (by first | exact .inl rfl | exact .inr (.inl rfl) | exact .inr (.inr (.inl rfl)) | exact .inr (.inr (.inr (.inl rfl))) | exact .inr (.inr (.inr (.inr (.inl rfl)))) | exact .inr (.inr (.inr (.inr (.inr rfl))))) (by rfl) Y.m_isinstance (by rfl) Y.m_tuple (by decide +kernel) (q_var 0)) (q_isi (T := "tuple") (by first | exact .inl rfl | exact .inr (.inl rfl) | exact .inr (.inr (.inl rfl)) | exact .inr (.inr (.inr (.inl rfl))) | exact .inr (.inr (.inr (.inr (.inl rfl)))) | exact .inr (.inr (.inr (.inr (.inr rfl))))) (by rfl) Y.m_isinstance (by rfl) Y.m_tuple (by decide +kernel) (q_var 1)))))) (qss_one (qs_ret q_bool)) qss_nil)
      (qss_one (qs_ret (q_and (q_eq hr.units (q_len rfl (by rfl) Y.m_len (qa_cons (q_var 0) qa_nil)) (q_len rfl (by rfl) Y.m_len (qa_cons (q_var 1) qa_nil))) (q_one (q_all rfl (by rfl) Y.m_all (qa_cons (q_lc rfl sc_law_same.nd (qi_zipP2 (by rfl) Y.m_zip (qa_cons (q_var 0) (qa_cons (q_var 1) qa_nil))) (blkOk_by (own := [("_law_a", 2), ("_law_b", 3)]) (N := N_law_same) (sc := defScope s_law_same) (by decide +kernel)) (fun _ _ _ _ _ => (qg_tupA (n := 2) rfl (qgs_cons (qg_name (ws := [2, 3]) 2 sc_law_same.nd (by decide) rfl (.inl rfl)) (qgs_cons (qg_name (ws := [2, 3]) 3 sc_law_same.nd (by decide) rfl (.inl rfl)) qgs_nil)))) (fun _ _ _ _ _ => qts_nil) (fun _ _ _ _ _ => (q_call false takes_no G_law_same (hr.mono (by omega)) (by rfl) Y.m_law_same Y.F_law_same.kp Y.b_law_same (qa_cons (q_var 2) (qa_cons (q_var 3) qa_nil)) (nArgs_cons (nArgs_cons nArgs_nil))))) qa_nil))))))) qss_nil)
      (qss_cons (qs_if (qt_w (qw_or (qt_isN (q_var 1) q_none) (qw_or1 (qt_val (q_isi2 (T := "bool") (U := "str") (by first | exact .inl rfl | exact .inr (.inl rfl) | exact .inr (.inr (.inl rfl)) | exact .inr (.inr (.inr (.inl rfl))) | exact .inr (.inr (.inr (.inr (.inl rfl)))) | exact .inr (.inr (.inr (.inr (.inr rfl))))) (by first | exact .inl rfl | exact .inr (.inl rfl) | exact .inr (.inr (.inl rfl)) | exact .inr (.inr (.inr (.inl rfl))) | exact .inr (.inr (.inr (.inr (.inl rfl)))) | exact .inr (.inr (.inr (.inr (.inr rfl))))) (by rfl) Y.m_isinstance (by rfl) Y.m_bool (by decide +kernel) (by rfl) Y.m_str (by decide +kernel) (q_var 1)))))) (qss_one (qs_ret (q_and (q_eq hr.units (q_var 0) (q_var 1)) (q_and (q_eq hr.units (q_isi (T := "bool") (by first | exact .inl rfl | exact .inr (.inl rfl) | exact .inr (.inr (.inl rfl)) | exact .inr (.inr (.inr (.inl rfl))) | exact .inr (.inr (.inr (.inr (.inl rfl)))) | exact .inr (.inr (.inr (.inr (.inr rfl))))) (by rfl) Y.m_isinstance (by rfl) Y.m_bool (by decide +kernel) (q_var 0)) (q_isi (T := "bool") (by first | exact .inl rfl | exact .inr (.inl rfl) | exact .inr (.inr (.inl rfl)) | exact .inr (.inr (.inr (.inl rfl))) | exact .inr (.inr (.inr (.inr (.inl rfl)))) | exact .inr (.inr (.inr (.inr (.inr rfl))))) (by rfl) Y.m_isinstance (by rfl) Y.m_bool (by decide +kernel) (q_var 1))) (q_one (q_eq hr.units (q_isN (q_var 0) q_none) (q_isN (q_var 1) q_none))))))) qss_nil)
      (qss_one (qs_ret (q_and (q_isi (T := "int") (by first | exact .inl rfl | exact .inr (.inl rfl) | exact .inr (.inr (.inl rfl)) | exact .inr (.inr (.inr (.inl rfl))) | exact .inr (.inr (.inr (.inr (.inl rfl)))) | exact .inr (.inr (.inr (.inr (.inr rfl))))) (by rfl) Y.m_isinstance (by rfl) Y.m_int (by decide +kernel) (q_var 0)) (q_and (q_not (q_isi (T := "bool") (by first | exact .inl rfl | exact .inr (.inl rfl) | exact .inr (.inr (.inl rfl)) | exact .inr (.inr (.inr (.inl rfl))) | exact .inr (.inr (.inr (.inr (.inl rfl)))) | exact .inr (.inr (.inr (.inr (.inr rfl))))) (by rfl) Y.m_isinstance (by rfl) Y.m_bool (by decide +kernel) (q_var 0))) (q_one (q_eq hr.units (q_var 0) (q_var 1))))))))), rfl⟩
theorem ok_law_strewn (Y : Fs K mg) : FnG P w K mg base (L2.CX P w) 5 Y.f_law_strewn Y.d_law_strewn ["_law_box_here", "_law_some"] (spF K Y.cl 2 fn_law_strewn) := by
  refine fnFx (k := 4) Y.F_law_strewn sc_law_strewn (fun cdv A outer s H E ρ dx hcl hr tk => ?_)
  obtain ⟨rB, rO, rP, rC⟩ := ρ
  obtain rfl : rC = Y.cl := hcl
  have G_law_take := ok_law_take (P := P) (w := w) (base := base) Y 4
  exact ⟨_, (qss_cons (qs_par (i := 2) (j := 3) rfl sc_law_strewn.nd rfl rfl (by decide) rfl rfl (qa_cons (q_listO rfl (by rfl) Y.m_list (qa_cons (q_var 1) qa_nil)) (qa_cons (q_lstO qa_nil) qa_nil)) (by rfl))
      (qss_cons (qs_while PassesOwn.leaving (qt_ne hr.units (q_var 2) (q_lst qa_nil)) (qss_one (qs_expr (q_append (q_var 3) (qa_cons (q_pop (q_var 2) (qa_cons (q_call false tk G_law_take (hr.mono (by decide)) (by rfl) Y.m_law_take Y.F_law_take.kp Y.b_law_take (qa_cons (q_var 0) (qa_cons (q_len rfl (by rfl) Y.m_len (qa_cons (q_var 2) qa_nil)) qa_nil)) (nArgs_cons (nArgs_cons nArgs_nil))) qa_nil)) qa_nil)))))
      (qss_one (qs_ret (q_var 3))))), rfl⟩
theorem ok_law_souls (Y : Fs K mg) : FnG P w K mg base (L2.CX P w) 6 Y.f_law_souls Y.d_law_souls ["_law_box_here", "_law_count"] (spF K Y.cl 2 fn_law_souls) := by
  refine fnFx (k := 5) Y.F_law_souls sc_law_souls (fun cdv A outer s H E ρ dx hcl hr tk => ?_)
  obtain ⟨rB, rO, rP, rC⟩ := ρ
  obtain rfl : rC = Y.cl := hcl
  have G_law_of := ok_law_of (P := P) (w := w) (base := base) Y
  have G_law_take := ok_law_take (P := P) (w := w) (base := base) Y 4
  exact ⟨_, (qss_cons (qs_par (i := 2) (j := 3) rfl sc_law_souls.nd rfl rfl (by decide) rfl rfl (qa_cons q_dict0 (qa_cons (q_call false tk G_law_of (hr.mono (by decide)) (by rfl) Y.m_law_of Y.F_law_of.kp Y.b_law_of (qa_cons (q_var 0) (qa_cons (q_lst (qa_cons (q_var 1) (qa_cons (q_add (q_mul q_int (q_var 1)) q_int) (qa_cons (q_pow q_int q_int) qa_nil)))) qa_nil)) (nArgs_cons (nArgs_cons nArgs_nil))) qa_nil)) (by rfl))
      (qss_cons (qs_for PassesOwn.leaving rfl (qi_range1 (by rfl) Y.m_range (qa_cons (q_var 1) qa_nil)) (qg_name (ws := [4]) 4 sc_law_souls.nd (by decide) rfl (.inl rfl)) (qss_cons (qs_set (i := 5) sc_law_souls.nd rfl (.inl rfl) (q_add q_int (q_call false tk G_law_take (hr.mono (by decide)) (by rfl) Y.m_law_take Y.F_law_take.kp Y.b_law_take (qa_cons (q_var 0) (qa_cons (q_max rfl (by rfl) Y.m_max (qa_cons q_int (qa_cons (q_var 3) qa_nil))) qa_nil)) (nArgs_cons (nArgs_cons nArgs_nil)))))
      (qss_cons (qs_while PassesOwn.leaving (qt_in hr.un65 (q_var 5) (q_var 2)) (qss_one (qs_set (i := 5) sc_law_souls.nd rfl (.inl rfl) (q_add (q_mod (q_var 5) (q_max rfl (by rfl) Y.m_max (qa_cons (q_var 3) (qa_cons (q_var 1) qa_nil)))) q_int))))
      (qss_one (qs_putD hr.un1 (q_var 2) (q_var 5) q_bool)))))
      (qss_one (qs_ret (q_sorted rfl (by rfl) Y.m_sorted (qa_cons (q_var 2) qa_nil)))))), rfl⟩
theorem ok_law_crowd (Y : Fs K mg) : FnG P w K mg base (L2.CX P w) 7 Y.f_law_crowd Y.d_law_crowd ["_law_box_here", "_law_most"] (spF K Y.cl 2 fn_law_crowd) := by
  refine fnFx (k := 6) Y.F_law_crowd sc_law_crowd (fun cdv A outer s H E ρ dx hcl hr tk => ?_)
  obtain ⟨rB, rO, rP, rC⟩ := ρ
  obtain rfl : rC = Y.cl := hcl
  have G_law_souls := ok_law_souls (P := P) (w := w) (base := base) Y
  have G_law_take := ok_law_take (P := P) (w := w) (base := base) Y 4
  have G_law_strewn := ok_law_strewn (P := P) (w := w) (base := base) Y
  exact ⟨_, (qss_cons (qs_set (i := 2) sc_law_crowd.nd rfl (.inl rfl) (q_call false tk G_law_souls (hr.mono (by decide)) (by rfl) Y.m_law_souls Y.F_law_souls.kp Y.b_law_souls (qa_cons (q_var 0) (qa_cons (q_call false tk G_law_take (hr.mono (by decide)) (by rfl) Y.m_law_take Y.F_law_take.kp Y.b_law_take (qa_cons (q_var 0) (qa_cons (q_add (q_var 1) q_int) qa_nil)) (nArgs_cons (nArgs_cons nArgs_nil))) qa_nil)) (nArgs_cons (nArgs_cons nArgs_nil))))
      (qss_cons (qs_if (qt_eq hr.units (q_call false tk G_law_take (hr.mono (by decide)) (by rfl) Y.m_law_take Y.F_law_take.kp Y.b_law_take (qa_cons (q_var 0) (qa_cons q_int qa_nil)) (nArgs_cons (nArgs_cons nArgs_nil))) q_int) (qss_one (qs_ret (q_tuple rfl (by rfl) Y.m_tuple (qa_cons (q_call false tk G_law_strewn (hr.mono (by decide)) (by rfl) Y.m_law_strewn Y.F_law_strewn.kp Y.b_law_strewn (qa_cons (q_var 0) (qa_cons (q_var 2) qa_nil)) (nArgs_cons (nArgs_cons nArgs_nil))) qa_nil)))) qss_nil)
      (qss_cons (qs_set (i := 3) sc_law_crowd.nd rfl (.inl rfl) (q_lstO qa_nil))
      (qss_cons (qs_for PassesOwn.leaving rfl (qi_seq (q_rev (q_var 2))) (qg_name (ws := [4]) 4 sc_law_crowd.nd (by decide) rfl (.inl rfl)) (qss_one (qs_expr (q_insert (q_var 3) (qa_cons (q_if (qt_gt (q_call false tk G_law_take (hr.mono (by decide)) (by rfl) Y.m_law_take Y.F_law_take.kp Y.b_law_take (qa_cons (q_var 0) (qa_cons q_int qa_nil)) (nArgs_cons (nArgs_cons nArgs_nil))) q_int) (q_div (q_len rfl (by rfl) Y.m_len (qa_cons (q_var 3) qa_nil)) q_int) (q_call false tk G_law_take (hr.mono (by decide)) (by rfl) Y.m_law_take Y.F_law_take.kp Y.b_law_take (qa_cons (q_var 0) (qa_cons (q_add (q_len rfl (by rfl) Y.m_len (qa_cons (q_var 3) qa_nil)) q_int) qa_nil)) (nArgs_cons (nArgs_cons nArgs_nil)))) (qa_cons (q_var 4) qa_nil))))))
      (qss_one (qs_ret (q_tuple rfl (by rfl) Y.m_tuple (qa_cons (q_var 3) qa_nil)))))))), rfl⟩
theorem ok_law_sees (Y : Fs K mg) : FnG P w K mg base (L2.CX P w) 1 Y.f_law_sees Y.d_law_sees ["_law_crowd_here", "_law_i", "_law_j"] (spF K Y.cl 3 fn_law_sees) := by
  refine fnFx (k := 0) Y.F_law_sees sc_law_sees (fun cdv A outer s H E ρ dx hcl hr tk => ?_)
  obtain ⟨rB, rO, rP, rC⟩ := ρ
  obtain rfl : rC = Y.cl := hcl
  exact ⟨_, (qss_one (qs_ret (q_all rfl (by rfl) Y.m_all (qa_cons (q_lc rfl sc_law_sees.nd (qi_seq (q_sl (q_var 0) (qo_some (q_add (q_var 1) q_int)) (qo_some (q_var 2)))) (blkOk_by (own := [("_law_soul", 3)]) (N := N_law_sees) (sc := defScope s_law_sees) (by decide +kernel)) (fun _ _ _ _ _ => (qg_name (ws := [3]) 3 sc_law_sees.nd (by decide) rfl (.inl rfl))) (fun _ _ _ _ _ => qts_nil) (fun _ _ _ _ _ => (q_lt (q_var 3) (q_min rfl (by rfl) Y.m_min (qa_cons (q_ix hr.un1 (q_var 0) (q_var 1)) (qa_cons (q_ix hr.un1 (q_var 0) (q_var 2)) qa_nil)))))) qa_nil)))), rfl⟩
theorem ok_law_swaps (Y : Fs K mg) : FnG P w K mg base (L2.CX P w) 2 Y.f_law_swaps Y.d_law_swaps ["_law_crowd_here"] (spF K Y.cl 1 fn_law_swaps) := by
  refine fnFx (k := 1) Y.F_law_swaps sc_law_swaps (fun cdv A outer s H E ρ dx hcl hr tk => ?_)
  obtain ⟨rB, rO, rP, rC⟩ := ρ
  obtain rfl : rC = Y.cl := hcl
  have G_law_sees := ok_law_sees (P := P) (w := w) (base := base) Y
  exact ⟨_, (qss_cons (qs_set (i := 1) sc_law_swaps.nd rfl (.inl rfl) (q_lst qa_nil))
      (qss_cons (qs_for PassesOwn.leaving rfl (qi_range1 (by rfl) Y.m_range (qa_cons (q_len rfl (by rfl) Y.m_len (qa_cons (q_var 0) qa_nil)) qa_nil)) (qg_name (ws := [2]) 2 sc_law_swaps.nd (by decide) rfl (.inr rfl)) (qss_one (qs_set (i := 1) sc_law_swaps.nd rfl (.inl rfl) (q_add (q_var 1) (q_lc rfl sc_law_swaps.nd (qi_range2 (by rfl) Y.m_range (qa_cons (q_add (q_var 2) q_int) (qa_cons (q_len rfl (by rfl) Y.m_len (qa_cons (q_var 0) qa_nil)) qa_nil))) (blkOk_by (own := [("_law_j", 3)]) (N := N_law_swaps) (sc := defScope s_law_swaps) (by decide +kernel)) (fun _ _ _ _ _ => (qg_name (ws := [3]) 3 sc_law_swaps.nd (by decide) rfl (.inl rfl))) (fun _ _ _ _ _ => (qts_one (qt_val (q_call false takes_no G_law_sees (hr.mono (by decide)) (by rfl) Y.m_law_sees Y.F_law_sees.kp Y.b_law_sees (qa_cons (q_var 0) (qa_cons (q_var 2) (qa_cons (q_var 3) qa_nil))) (nArgs_cons (nArgs_cons (nArgs_cons nArgs_nil))))))) (fun _ _ _ _ _ => (q_tup (qa_cons (q_var 2) (qa_cons (q_var 3) qa_nil)))))))))
      (qss_one (qs_ret (q_var 1))))), rfl⟩
theorem ok_law_turned (Y : Fs K mg) : FnG P w K mg base (L2.CX P w) 1 Y.f_law_turned Y.d_law_turned ["_law_crowd_here", "_law_swap"] (spF K Y.cl 2 fn_law_turned) := by
  refine fnFx (k := 0) Y.F_law_turned sc_law_turned (fun cdv A outer s H E ρ dx hcl hr tk => ?_)
  obtain ⟨rB, rO, rP, rC⟩ := ρ
  obtain rfl : rC = Y.cl := hcl
  exact ⟨_, (qss_cons (qs_asg (q_var 1) (qg_tupA (n := 2) rfl (qgs_cons (qg_name (ws := [2, 3]) 2 sc_law_turned.nd (by decide) rfl (.inl rfl)) (qgs_cons (qg_name (ws := [2, 3]) 3 sc_law_turned.nd (by decide) rfl (.inl rfl)) qgs_nil))))
      (qss_one (qs_ret (q_add (q_add (q_add (q_add (q_sl (q_var 0) qo_none (qo_some (q_var 2))) (q_tup (qa_cons (q_ix hr.un1 (q_var 0) (q_var 3)) qa_nil))) (q_sl (q_var 0) (qo_some (q_add (q_var 2) q_int)) (qo_some (q_var 3)))) (q_tup (qa_cons (q_ix hr.un1 (q_var 0) (q_var 2)) qa_nil))) (q_sl (q_var 0) (qo_some (q_add (q_var 3) q_int)) qo_none))))), rfl⟩
theorem ok_law_told (Y : Fs K mg) : FnG P w K mg base (L2.CX P w) 5 Y.f_law_told Y.d_law_told ["_law_crowd_here", "_law_swap"] (spF K Y.cl 2 fn_law_told) := by
  refine fnFx (k := 4) Y.F_law_told sc_law_told (fun cdv A outer s H E ρ dx hcl hr tk => ?_)
  obtain ⟨rB, rO, rP, rC⟩ := ρ
  obtain rfl : rC = Y.cl := hcl
  have G_exchanged := ok_exchanged (P := P) (w := w) (base := base) Y
  exact ⟨_, (qss_cons (qs_asg (q_tup (qa_cons q_none (qa_cons q_none qa_nil))) (qg_tupA (n := 2) rfl (qgs_cons (qg_name (ws := [2, 3]) 2 sc_law_told.nd (by decide) rfl (.inl rfl)) (qgs_cons (qg_name (ws := [2, 3]) 3 sc_law_told.nd (by decide) rfl (.inl rfl)) qgs_nil))))
      (qss_cons (qs_try (hit := tb_law_told_1) (i := 4) (j := 3) rfl rfl rfl sc_law_told.nd rfl rfl (test_tup ((NmV.cons (.own (Y.cl "Barred")) ⟨by rfl, by decide, .inl Y.m_Barred⟩ (NmV.cons (.own (Y.cl "Blocked")) ⟨by rfl, by decide, .inl Y.m_Blocked⟩ (NmV.cons (.own (Y.cl "NoPerson")) ⟨by rfl, by decide, .inl Y.m_NoPerson⟩ (NmV.cons (.own (Y.cl "NoPlace")) ⟨by rfl, by decide, .inl Y.m_NoPlace⟩ NmV.nil))))).toL (by decide)) tk Y.x_0 (fun a oe pn => ps_asg (pe_var rfl (.inl rfl)) (pg_name sc_law_told.nd rfl (.inl rfl))) (fun r2 dx2 pn xe hc2 tk2 po => by
      obtain ⟨r2B, r2O, r2P, r2C⟩ := r2
      obtain rfl : r2C = Y.cl := hc2
      have tk := tk2
      exact (qss_one (qs_set (i := 2) sc_law_told.nd rfl (.inl rfl) (q_callK false [1, 0] tk G_exchanged (hr.mono (by decide)) (by rfl) Y.m_exchanged Y.F_exchanged.kp Y.kb_exchanged_1_0 (qk_cons (q_var 1) (qk_cons (q_var 0) qk_nil)) (nArgs_cons (nArgs_cons nArgs_nil)) (fun rs h => by match rs, h with | [a0, a1], _ => rfl))))))
      (qss_cons (qs_if (qt_isN (q_var 3) q_none) (qss_one (qs_ret (q_var 2))) qss_nil)
      (qss_cons (qs_set (i := 5) sc_law_told.nd rfl (.inl rfl) (q_and (q_isX1 (t := ki_law_told_2) (by rfl) Y.m_isinstance (.own (Y.cl "Blocked")) ⟨by rfl, by decide, .inl Y.m_Blocked⟩ Y.k_2 Y.z_2 (q_var 3)) (q_one (q_not (q_isXs (t := ki_law_told_1) (by rfl) Y.m_isinstance (NmV.cons (.own (Y.cl "Barred")) ⟨by rfl, by decide, .inl Y.m_Barred⟩ (NmV.cons (.own (Y.cl "NoPerson")) ⟨by rfl, by decide, .inl Y.m_NoPerson⟩ (NmV.cons (.own (Y.cl "NoPlace")) ⟨by rfl, by decide, .inl Y.m_NoPlace⟩ NmV.nil))) (by simp) Y.k_1 Y.z_1 (q_var 3))))))
      (qss_one (qs_ret (q_if (qt_w (qw_and (qt_val (q_var 5)) (qw_and1 (qt_val (q_isX1 (t := ki_law_told_3) (by rfl) Y.m_isinstance (.ty "RuntimeError") ⟨by rfl, by decide, .inr ⟨Y.m_RuntimeError, by decide +kernel, by decide⟩⟩ Y.k_3 Y.z_3 (q_var 3)))))) (q_tup (qa_cons q_str (qa_cons (q_attr (cs := ca_law_told_1) Y.at_pair (q_var 3)) qa_nil))) q_str))))))), rfl⟩
theorem ok_law_seen (Y : Fs K mg) : FnG P w K mg base (L2.CX P w) 5 Y.f_law_seen Y.d_law_seen ["_law_crowd_here", "_law_a", "_law_b"] (spF K Y.cl 3 fn_law_seen) := by
  refine fnFx (k := 4) Y.F_law_seen sc_law_seen (fun cdv A outer s H E ρ dx hcl hr tk => ?_)
  obtain ⟨rB, rO, rP, rC⟩ := ρ
  obtain rfl : rC = Y.cl := hcl
  have G_sees := ok_sees (P := P) (w := w) (base := base) Y
  exact ⟨_, (qss_cons (qs_asg (q_tup (qa_cons q_none (qa_cons q_none qa_nil))) (qg_tupA (n := 2) rfl (qgs_cons (qg_name (ws := [3, 4]) 3 sc_law_seen.nd (by decide) rfl (.inl rfl)) (qgs_cons (qg_name (ws := [3, 4]) 4 sc_law_seen.nd (by decide) rfl (.inl rfl)) qgs_nil))))
      (qss_cons (qs_try (hit := tb_law_seen_1) (i := 5) (j := 4) rfl rfl rfl sc_law_seen.nd rfl rfl (test_tup ((NmV.cons (.own (Y.cl "Barred")) ⟨by rfl, by decide, .inl Y.m_Barred⟩ (NmV.cons (.own (Y.cl "Blocked")) ⟨by rfl, by decide, .inl Y.m_Blocked⟩ (NmV.cons (.own (Y.cl "NoPerson")) ⟨by rfl, by decide, .inl Y.m_NoPerson⟩ (NmV.cons (.own (Y.cl "NoPlace")) ⟨by rfl, by decide, .inl Y.m_NoPlace⟩ NmV.nil))))).toL (by decide)) tk Y.x_0 (fun a oe pn => ps_asg (pe_var rfl (.inl rfl)) (pg_name sc_law_seen.nd rfl (.inl rfl))) (fun r2 dx2 pn xe hc2 tk2 po => by
      obtain ⟨r2B, r2O, r2P, r2C⟩ := r2
      obtain rfl : r2C = Y.cl := hc2
      have tk := tk2
      exact (qss_one (qs_set (i := 3) sc_law_seen.nd rfl (.inl rfl) (q_callK false [2, 1, 0] tk G_sees (hr.mono (by decide)) (by rfl) Y.m_sees Y.F_sees.kp Y.kb_sees_2_1_0 (qk_cons (q_var 2) (qk_cons (q_var 1) (qk_cons (q_var 0) qk_nil))) (nArgs_cons (nArgs_cons (nArgs_cons nArgs_nil))) (fun rs h => by match rs, h with | [a0, a1, a2], _ => rfl))))))
      (qss_cons (qs_if (qt_isN (q_var 4) q_none) (qss_one (qs_ret (q_var 3))) qss_nil)
      (qss_cons (qs_set (i := 6) sc_law_seen.nd rfl (.inl rfl) (q_and (q_isX1 (t := ki_law_seen_2) (by rfl) Y.m_isinstance (.own (Y.cl "NoPerson")) ⟨by rfl, by decide, .inl Y.m_NoPerson⟩ Y.k_5 Y.z_5 (q_var 4)) (q_one (q_not (q_isXs (t := ki_law_seen_1) (by rfl) Y.m_isinstance (NmV.cons (.own (Y.cl "Barred")) ⟨by rfl, by decide, .inl Y.m_Barred⟩ (NmV.cons (.own (Y.cl "Blocked")) ⟨by rfl, by decide, .inl Y.m_Blocked⟩ (NmV.cons (.own (Y.cl "NoPlace")) ⟨by rfl, by decide, .inl Y.m_NoPlace⟩ NmV.nil))) (by simp) Y.k_4 Y.z_4 (q_var 4))))))
      (qss_one (qs_ret (q_if (qt_w (qw_and (qt_val (q_var 6)) (qw_and1 (qt_val (q_isX1 (t := ki_law_seen_3) (by rfl) Y.m_isinstance (.ty "LookupError") ⟨by rfl, by decide, .inr ⟨Y.m_LookupError, by decide +kernel, by decide⟩⟩ Y.k_6 Y.z_6 (q_var 4)))))) (q_tup (qa_cons q_str (qa_cons (q_attr (cs := ca_law_seen_1) Y.at_height (q_var 4)) qa_nil))) q_str))))))), rfl⟩
theorem ok_law_sight_right (Y : Fs K mg) : FnG P w K mg base (L2.CX P w) 6 Y.f_law_sight_right Y.d_law_sight_right ["_law_crowd_here", "_law_listed", "_law_a", "_law_b"] (spF K Y.cl 4 fn_law_sight_right) := by
  refine fnFx (k := 5) Y.F_law_sight_right sc_law_sight_right (fun cdv A outer s H E ρ dx hcl hr tk => ?_)
  obtain ⟨rB, rO, rP, rC⟩ := ρ
  obtain rfl : rC = Y.cl := hcl
  have G_law_sees := ok_law_sees (P := P) (w := w) (base := base) Y
  have G_law_same := ok_law_same (P := P) (w := w) (base := base) Y 4
  have G_law_seen := ok_law_seen (P := P) (w := w) (base := base) Y
  exact ⟨_, (qss_cons (qs_setLc (j := 4) rfl sc_law_sight_right.nd rfl rfl (sw_true rfl rfl rfl (by decide +kernel)) (qi_seq (q_tup (qa_cons (q_var 2) (qa_cons (q_var 3) qa_nil)))) (blkOk_by (own := [("_law_its", 8)]) (N := N_law_sight_right) (sc := defScope s_law_sight_right) (by decide +kernel)) (fun _ _ _ _ _ => (qg_name (ws := [8]) 8 sc_law_sight_right.nd (by decide) rfl (.inl rfl))) (fun _ _ _ _ _ => (qts_one (qt_notIn hr.un65 (q_var 8) (q_var 0)))) (fun _ _ _ _ _ => (q_var 8)))
      (qss_cons (qs_if (qt_ne hr.units (q_var 4) (q_lst qa_nil)) (qss_one (qs_set (i := 5) sc_law_sight_right.nd rfl (.inl rfl) (q_tup (qa_cons q_str (qa_cons (q_ix hr.un1 (q_var 4) q_int) qa_nil))))) (qss_cons (qs_asg (q_sorted rfl (by rfl) Y.m_sorted (qa_cons (q_lst (qa_cons (q_idxT (q_var 0) (qa_cons (q_var 2) qa_nil)) (qa_cons (q_idxT (q_var 0) (qa_cons (q_var 3) qa_nil)) qa_nil))) qa_nil)) (qg_tupA (n := 2) rfl (qgs_cons (qg_name (ws := [6, 7]) 6 sc_law_sight_right.nd (by decide) rfl (.inl rfl)) (qgs_cons (qg_name (ws := [6, 7]) 7 sc_law_sight_right.nd (by decide) rfl (.inl rfl)) qgs_nil))))
      (qss_one (qs_set (i := 5) sc_law_sight_right.nd rfl (.inl rfl) (q_call false tk G_law_sees (hr.mono (by decide)) (by rfl) Y.m_law_sees Y.F_law_sees.kp Y.b_law_sees (qa_cons (q_var 0) (qa_cons (q_var 6) (qa_cons (q_var 7) qa_nil))) (nArgs_cons (nArgs_cons (nArgs_cons nArgs_nil))))))))
      (qss_one (qs_ret (q_call true tk G_law_same (hr.mono (by decide)) (by rfl) Y.m_law_same Y.F_law_same.kp Y.b_law_same (qa_cons (q_lst (qa_cons (q_call false tk G_law_seen (hr.mono (by decide)) (by rfl) Y.m_law_seen Y.F_law_seen.kp Y.b_law_seen (qa_cons (q_var 0) (qa_cons (q_var 2) (qa_cons (q_var 3) qa_nil))) (nArgs_cons (nArgs_cons (nArgs_cons nArgs_nil)))) (qa_cons (q_call false tk G_law_seen (hr.mono (by decide)) (by rfl) Y.m_law_seen Y.F_law_seen.kp Y.b_law_seen (qa_cons (q_var 1) (qa_cons (q_var 2) (qa_cons (q_var 3) qa_nil))) (nArgs_cons (nArgs_cons (nArgs_cons nArgs_nil)))) qa_nil))) (qa_cons (q_lst (qa_cons (q_var 5) (qa_cons (q_var 5) qa_nil))) qa_nil)) (nArgs_cons (nArgs_cons nArgs_nil))))))), rfl⟩
theorem ok_law_right (Y : Fs K mg) : FnG P w K mg base (L2.CX P w) 8 Y.f_law_right Y.d_law_right ["_law_box_here"] (spF K Y.cl 1 fn_law_right) := by
  refine fnFx (k := 7) Y.F_law_right sc_law_right (fun cdv A outer s H E ρ dx hcl hr tk => ?_)
  obtain ⟨rB, rO, rP, rC⟩ := ρ
  obtain rfl : rC = Y.cl := hcl
  have G_law_crowd := ok_law_crowd (P := P) (w := w) (base := base) Y
  have G_law_swaps := ok_law_swaps (P := P) (w := w) (base := base) Y
  have G_law_sees := ok_law_sees (P := P) (w := w) (base := base) Y
  have G_exchanges := ok_exchanges (P := P) (w := w) (base := base) Y
  have G_sights := ok_sights (P := P) (w := w) (base := base) Y
  have G_law_same := ok_law_same (P := P) (w := w) (base := base) Y 4
  have G_law_turned := ok_law_turned (P := P) (w := w) (base := base) Y
  have G_law_told := ok_law_told (P := P) (w := w) (base := base) Y
  have G_law_strewn := ok_law_strewn (P := P) (w := w) (base := base) Y
  have G_law_sight_right := ok_law_sight_right (P := P) (w := w) (base := base) Y
  exact ⟨_, (qss_cons (qs_set (i := 1) sc_law_right.nd rfl (.inr rfl) (q_call false tk G_law_crowd (hr.mono (by decide)) (by rfl) Y.m_law_crowd Y.F_law_crowd.kp Y.b_law_crowd (qa_cons (q_var 0) (qa_cons q_int qa_nil)) (nArgs_cons (nArgs_cons nArgs_nil))))
      (qss_cons (qs_par3 (i := 2) (j := 3) (l := 4) rfl sc_law_right.nd rfl rfl rfl (by decide) (by decide) (by decide) rfl rfl rfl (qa_cons (q_list rfl (by rfl) Y.m_list (qa_cons (q_var 1) qa_nil)) (qa_cons (q_call false tk G_law_swaps (hr.mono (by decide)) (by rfl) Y.m_law_swaps Y.F_law_swaps.kp Y.b_law_swaps (qa_cons (q_var 1) qa_nil) (nArgs_cons nArgs_nil)) (qa_cons (q_lst qa_nil) qa_nil))) (by rfl))
      (qss_cons (qs_for PassesOwn.leaving rfl (qi_range1 (by rfl) Y.m_range (qa_cons (q_len rfl (by rfl) Y.m_len (qa_cons (q_var 1) qa_nil)) qa_nil)) (qg_name (ws := [5]) 5 sc_law_right.nd (by decide) rfl (.inr rfl)) (qss_one (qs_set (i := 4) sc_law_right.nd rfl (.inl rfl) (q_add (q_var 4) (q_lc rfl sc_law_right.nd (qi_range2 (by rfl) Y.m_range (qa_cons (q_add (q_var 5) q_int) (qa_cons (q_len rfl (by rfl) Y.m_len (qa_cons (q_var 1) qa_nil)) qa_nil))) (blkOk_by (own := [("_law_j", 7)]) (N := N_law_right) (sc := defScope s_law_right) (by decide +kernel)) (fun _ _ _ _ _ => (qg_name (ws := [7]) 7 sc_law_right.nd (by decide) rfl (.inl rfl))) (fun _ _ _ _ _ => (qts_one (qt_val (q_call false takes_no G_law_sees (hr.mono (by decide)) (by rfl) Y.m_law_sees Y.F_law_sees.kp Y.b_law_sees (qa_cons (q_var 1) (qa_cons (q_var 5) (qa_cons (q_var 7) qa_nil))) (nArgs_cons (nArgs_cons (nArgs_cons nArgs_nil))))))) (fun _ _ _ _ _ => (q_tup (qa_cons (q_var 5) (qa_cons (q_var 7) qa_nil)))))))))
      (qss_cons (qs_set (i := 6) sc_law_right.nd rfl (.inl rfl) (q_lstL (qa_cons (q_call true tk G_sights (hr.mono (by decide)) (by rfl) Y.m_sights Y.F_sights.kp Y.b_sights (qa_cons (q_var 1) qa_nil) (nArgs_cons nArgs_nil)) (qa_cons (q_callK true [0] tk G_sights (hr.mono (by decide)) (by rfl) Y.m_sights Y.F_sights.kp Y.kb_sights_0 (qk_cons (q_var 2) qk_nil) (nArgs_cons nArgs_nil) (fun rs h => by match rs, h with | [a0], _ => rfl)) (qa_cons (q_call true tk G_exchanges (hr.mono (by decide)) (by rfl) Y.m_exchanges Y.F_exchanges.kp Y.b_exchanges (qa_cons (q_var 1) qa_nil) (nArgs_cons nArgs_nil)) (qa_cons (q_callK true [0] tk G_exchanges (hr.mono (by decide)) (by rfl) Y.m_exchanges Y.F_exchanges.kp Y.kb_exchanges_0 (qk_cons (q_var 2) qk_nil) (nArgs_cons nArgs_nil) (fun rs h => by match rs, h with | [a0], _ => rfl)) qa_nil))))))
      (qss_cons (qs_if (qt_not (qt_val (q_callL tk G_law_same (hr.mono (by decide)) (by rfl) Y.m_law_same Y.F_law_same.kp Y.b_law_same (qa_cons (q_var 6) (qa_cons (q_lst (qa_cons (q_var 4) (qa_cons (q_var 4) (qa_cons (q_var 3) (qa_cons (q_var 3) qa_nil))))) qa_nil)) (nArgs_cons (nArgs_cons nArgs_nil))))) (qss_one (qs_ret q_bool)) qss_nil)
      (qss_cons (qs_expr (q_append (q_ixL (q_var 6) q_int) (qa_cons q_str qa_nil)))
      (qss_cons (qs_expr (q_append (q_ixL (q_var 6) q_int) (qa_cons q_str qa_nil)))
      (qss_cons (qs_if (qt_not (qt_val (q_call false tk G_law_same (hr.mono (by decide)) (by rfl) Y.m_law_same Y.F_law_same.kp Y.b_law_same (qa_cons (q_lst (qa_cons (q_call false tk G_sights (hr.mono (by decide)) (by rfl) Y.m_sights Y.F_sights.kp Y.b_sights (qa_cons (q_var 1) qa_nil) (nArgs_cons nArgs_nil)) (qa_cons (q_call false tk G_exchanges (hr.mono (by decide)) (by rfl) Y.m_exchanges Y.F_exchanges.kp Y.b_exchanges (qa_cons (q_var 1) qa_nil) (nArgs_cons nArgs_nil)) qa_nil))) (qa_cons (q_lst (qa_cons (q_var 4) (qa_cons (q_var 3) qa_nil))) qa_nil)) (nArgs_cons (nArgs_cons nArgs_nil))))) (qss_one (qs_ret q_bool)) qss_nil)
      (qss_cons (qs_for PassesOwn.leaving rfl (qi_range2 (by rfl) Y.m_range (qa_cons (q_neg q_int) (qa_cons (q_add (q_len rfl (by rfl) Y.m_len (qa_cons (q_var 1) qa_nil)) q_int) qa_nil))) (qg_name (ws := [5]) 5 sc_law_right.nd (by decide) rfl (.inr rfl)) (qss_one (qs_for PassesOwn.leaving rfl (qi_range2 (by rfl) Y.m_range (qa_cons (q_neg q_int) (qa_cons (q_add (q_len rfl (by rfl) Y.m_len (qa_cons (q_var 1) qa_nil)) q_int) qa_nil))) (qg_name (ws := [7]) 7 sc_law_right.nd (by decide) rfl (.inl rfl)) (qss_cons (qs_set (i := 8) sc_law_right.nd rfl (.inl rfl) (q_if (qt_in hr.un65 (q_tup (qa_cons (q_var 5) (qa_cons (q_var 7) qa_nil))) (q_var 3)) (q_call false tk G_law_turned (hr.mono (by decide)) (by rfl) Y.m_law_turned Y.F_law_turned.kp Y.b_law_turned (qa_cons (q_var 1) (qa_cons (q_tup (qa_cons (q_var 5) (qa_cons (q_var 7) qa_nil))) qa_nil)) (nArgs_cons (nArgs_cons nArgs_nil))) (q_tup (qa_cons q_str (qa_cons (q_tup (qa_cons (q_var 5) (qa_cons (q_var 7) qa_nil))) qa_nil)))))
      (qss_one (qs_if (qt_not (qt_val (q_call false tk G_law_same (hr.mono (by decide)) (by rfl) Y.m_law_same Y.F_law_same.kp Y.b_law_same (qa_cons (q_lst (qa_cons (q_call false tk G_law_told (hr.mono (by decide)) (by rfl) Y.m_law_told Y.F_law_told.kp Y.b_law_told (qa_cons (q_var 1) (qa_cons (q_tup (qa_cons (q_var 5) (qa_cons (q_var 7) qa_nil))) qa_nil)) (nArgs_cons (nArgs_cons nArgs_nil))) (qa_cons (q_call false tk G_law_told (hr.mono (by decide)) (by rfl) Y.m_law_told Y.F_law_told.kp Y.b_law_told (qa_cons (q_var 2) (qa_cons (q_lst (qa_cons (q_var 5) (qa_cons (q_var 7) qa_nil))) qa_nil)) (nArgs_cons (nArgs_cons nArgs_nil))) qa_nil))) (qa_cons (q_lst (qa_cons (q_var 8) (qa_cons (q_var 8) qa_nil))) qa_nil)) (nArgs_cons (nArgs_cons nArgs_nil))))) (qss_one (qs_ret q_bool)) qss_nil))))))
      (qss_cons (qs_set (i := 9) sc_law_right.nd rfl (.inl rfl) (q_sl (q_call false tk G_law_strewn (hr.mono (by decide)) (by rfl) Y.m_law_strewn Y.F_law_strewn.kp Y.b_law_strewn (qa_cons (q_var 0) (qa_cons (q_var 2) qa_nil)) (nArgs_cons (nArgs_cons nArgs_nil))) qo_none (qo_some q_int)))
      (qss_cons (qs_for PassesOwn.leaving rfl (qi_seq (q_add (q_var 9) (q_lst (qa_cons q_int (qa_cons (q_pow q_int q_int) qa_nil))))) (qg_name (ws := [10]) 10 sc_law_right.nd (by decide) rfl (.inr rfl)) (qss_one (qs_for PassesOwn.leaving rfl (qi_seq (q_lc rfl sc_law_right.nd (qi_seq (q_add (q_var 9) (q_lst (qa_cons (q_neg q_int) qa_nil)))) (blkOk_by (own := [("_law_its", 12)]) (N := N_law_right) (sc := defScope s_law_right) (by decide +kernel)) (fun _ _ _ _ _ => (qg_name (ws := [12]) 12 sc_law_right.nd (by decide) rfl (.inl rfl))) (fun _ _ _ _ _ => (qts_one (qt_ne hr.units (q_var 12) (q_var 10)))) (fun _ _ _ _ _ => (q_var 12)))) (qg_name (ws := [11]) 11 sc_law_right.nd (by decide) rfl (.inl rfl)) (qss_one (qs_if (qt_not (qt_val (q_call false tk G_law_sight_right (hr.mono (by decide)) (by rfl) Y.m_law_sight_right Y.F_law_sight_right.kp Y.b_law_sight_right (qa_cons (q_var 1) (qa_cons (q_var 2) (qa_cons (q_var 10) (qa_cons (q_var 11) qa_nil)))) (nArgs_cons (nArgs_cons (nArgs_cons (nArgs_cons nArgs_nil))))))) (qss_one (qs_ret q_bool)) qss_nil)))))
      (qss_one (qs_ret (q_and (q_call false tk G_law_same (hr.mono (by decide)) (by rfl) Y.m_law_same Y.F_law_same.kp Y.b_law_same (qa_cons (q_call false tk G_law_told (hr.mono (by decide)) (by rfl) Y.m_law_told Y.F_law_told.kp Y.b_law_told (qa_cons (q_var 1) (qa_cons (q_tup (qa_cons q_int (qa_cons (q_pow q_int q_int) qa_nil))) qa_nil)) (nArgs_cons (nArgs_cons nArgs_nil))) (qa_cons (q_tup (qa_cons q_str (qa_cons (q_tup (qa_cons q_int (qa_cons (q_pow q_int q_int) qa_nil))) qa_nil))) qa_nil)) (nArgs_cons (nArgs_cons nArgs_nil))) (q_one (q_eq hr.units (q_var 2) (q_list rfl (by rfl) Y.m_list (qa_cons (q_var 1) qa_nil)))))))))))))))))), rfl⟩
theorem ok_law (Y : Fs K mg) : FnG P w K mg base (L2.CX P w) 9 Y.f_law Y.d_law ["_law_script"] (spF K Y.cl 1 fn_law) := by
  refine fnFx (k := 8) Y.F_law sc_law (fun cdv A outer s H E ρ dx hcl hr tk => ?_)
  obtain ⟨rB, rO, rP, rC⟩ := ρ
  obtain rfl : rC = Y.cl := hcl
  have G_law_box := ok_law_box (P := P) (w := w) (base := base) Y
  have G_law_right := ok_law_right (P := P) (w := w) (base := base) Y
  exact ⟨_, (qss_cons (qs_for PassesOwn.leaving rfl (qi_range1 (by rfl) Y.m_range (qa_cons (q_add q_int (q_min rfl (by rfl) Y.m_min (qa_cons q_int (qa_cons (q_len rfl (by rfl) Y.m_len (qa_cons (q_var 0) qa_nil)) qa_nil)))) qa_nil)) (qg_name (ws := [1]) 1 sc_law.nd (by decide) rfl (.inl rfl)) (qss_cons (qs_set (i := 2) sc_law.nd rfl (.inr rfl) (q_call true tk G_law_box (hr.mono (by decide)) (by rfl) Y.m_law_box Y.F_law_box.kp Y.b_law_box (qa_cons (q_var 0) (qa_cons (q_var 1) qa_nil)) (nArgs_cons (nArgs_cons nArgs_nil))))
      (qss_one (qs_if (qt_not (qt_val (q_all rfl (by rfl) Y.m_all (qa_cons (q_lc rfl sc_law.nd (qi_range1 (by rfl) Y.m_range (qa_cons q_int qa_nil)) (blkOk_by (own := [("_law_turn", 3)]) (N := N_law) (sc := defScope s_law) (by decide +kernel)) (fun _ _ _ _ _ => (qg_name (ws := [3]) 3 sc_law.nd (by decide) rfl (.inl rfl))) (fun _ _ _ _ _ => qts_nil) (fun _ _ _ _ _ => (q_call false takes_no G_law_right (hr.mono (by decide)) (by rfl) Y.m_law_right Y.F_law_right.kp Y.b_law_right (qa_cons (q_var 2) qa_nil) (nArgs_cons nArgs_nil)))) qa_nil)))) (qss_one (qs_ret q_bool)) qss_nil))))
      (qss_one (qs_ret q_bool))), rfl⟩
end
def e_place_of : He.DefD := ⟨("place_of", none), "place_of", "place_of", defArgs s_place_of, defBody s_place_of, defScope s_place_of, [], []⟩
def e_are_lower : He.DefD := ⟨("are_lower", none), "are_lower", "are_lower", defArgs s_are_lower, defBody s_are_lower, defScope s_are_lower, [], []⟩
def e_sees_at : He.DefD := ⟨("sees_at", none), "sees_at", "sees_at", defArgs s_sees_at, defBody s_sees_at, defScope s_sees_at, [], []⟩
def e_sees : He.DefD := ⟨("sees", none), "sees", "sees", defArgs s_sees, defBody s_sees, defScope s_sees, [], []⟩
def e_sights : He.DefD := ⟨("sights", none), "sights", "sights", defArgs s_sights, defBody s_sights, defScope s_sights, [], []⟩
def e_exchanges : He.DefD := ⟨("exchanges", none), "exchanges", "exchanges", defArgs s_exchanges, defBody s_exchanges, defScope s_exchanges, [], []⟩
def e_look_exchange : He.DefD := ⟨("look_exchange", none), "look_exchange", "look_exchange", defArgs s_look_exchange, defBody s_look_exchange, defScope s_look_exchange, [], []⟩
def e_swapped : He.DefD := ⟨("swapped", none), "swapped", "swapped", defArgs s_swapped, defBody s_swapped, defScope s_swapped, [], []⟩
def e_exchanged : He.DefD := ⟨("exchanged", none), "exchanged", "exchanged", defArgs s_exchanged, defBody s_exchanged, defScope s_exchanged, [], []⟩
def e_law_cell_at : He.DefD := ⟨("_law_cell_at", none), "_law_cell_at", "_law_cell_at", defArgs s_law_cell_at, defBody s_law_cell_at, defScope s_law_cell_at, [], []⟩
def e_law_box : He.DefD := ⟨("_law_box", none), "_law_box", "_law_box", defArgs s_law_box, defBody s_law_box, defScope s_law_box, [], []⟩
def e_law_take : He.DefD := ⟨("_law_take", none), "_law_take", "_law_take", defArgs s_law_take, defBody s_law_take, defScope s_law_take, [], []⟩
def e_law_of : He.DefD := ⟨("_law_of", none), "_law_of", "_law_of", defArgs s_law_of, defBody s_law_of, defScope s_law_of, [], []⟩
def e_law_same : He.DefD := ⟨("_law_same", none), "_law_same", "_law_same", defArgs s_law_same, defBody s_law_same, defScope s_law_same, [], []⟩
def e_law_strewn : He.DefD := ⟨("_law_strewn", none), "_law_strewn", "_law_strewn", defArgs s_law_strewn, defBody s_law_strewn, defScope s_law_strewn, [], []⟩
def e_law_souls : He.DefD := ⟨("_law_souls", none), "_law_souls", "_law_souls", defArgs s_law_souls, defBody s_law_souls, defScope s_law_souls, [], []⟩
def e_law_crowd : He.DefD := ⟨("_law_crowd", none), "_law_crowd", "_law_crowd", defArgs s_law_crowd, defBody s_law_crowd, defScope s_law_crowd, [], []⟩
def e_law_sees : He.DefD := ⟨("_law_sees", none), "_law_sees", "_law_sees", defArgs s_law_sees, defBody s_law_sees, defScope s_law_sees, [], []⟩
def e_law_swaps : He.DefD := ⟨("_law_swaps", none), "_law_swaps", "_law_swaps", defArgs s_law_swaps, defBody s_law_swaps, defScope s_law_swaps, [], []⟩
def e_law_turned : He.DefD := ⟨("_law_turned", none), "_law_turned", "_law_turned", defArgs s_law_turned, defBody s_law_turned, defScope s_law_turned, [], []⟩
def e_law_told : He.DefD := ⟨("_law_told", none), "_law_told", "_law_told", defArgs s_law_told, defBody s_law_told, defScope s_law_told, [], []⟩
def e_law_seen : He.DefD := ⟨("_law_seen", none), "_law_seen", "_law_seen", defArgs s_law_seen, defBody s_law_seen, defScope s_law_seen, [], []⟩
def e_law_sight_right : He.DefD := ⟨("_law_sight_right", none), "_law_sight_right", "_law_sight_right", defArgs s_law_sight_right, defBody s_law_sight_right, defScope s_law_sight_right, [], []⟩
def e_law_right : He.DefD := ⟨("_law_right", none), "_law_right", "_law_right", defArgs s_law_right, defBody s_law_right, defScope s_law_right, [], []⟩
def e_law : He.DefD := ⟨("law", none), "law", "law", defArgs s_law, defBody s_law, defScope s_law, [], []⟩
def ei_Blocked : He.DefD := ⟨("Blocked", some "__init__"), "__init__", "Blocked.__init__", defArgs si_Blocked, defBody si_Blocked, defScope si_Blocked, [], []⟩
def ei_NoPerson : He.DefD := ⟨("NoPerson", some "__init__"), "__init__", "NoPerson.__init__", defArgs si_NoPerson, defBody si_NoPerson, defScope si_NoPerson, [], []⟩
def fnE0 : List He.DefD := [e_place_of, e_are_lower, e_sees_at, e_sees, e_sights, e_exchanges, e_look_exchange, e_swapped, e_exchanged, e_law_cell_at, e_law_box, e_law_take, e_law_of, e_law_same, e_law_strewn, e_law_souls, e_law_crowd, e_law_sees, e_law_swaps, e_law_turned]
def fnE1 : List He.DefD := [e_law_told, e_law_seen, e_law_sight_right, e_law_right, e_law, ei_Blocked, ei_NoPerson]
def fnEa : List He.DefD := fnE0
def fnEb : List He.DefD := fnE1
def fnE : List He.DefD := fnEa ++ fnEb
def fxE0 : List Fx := [excA ["Blocked", "NoPerson"], basB "LookupError" "LookupError.__init__", basB "RuntimeError" "RuntimeError.__init__", oexB [.type "RuntimeError", .type "Exception", .type "BaseException", .type "object"] "RuntimeError.__new__" "Blocked" ["pair"], iniB "Blocked", oexB [.type "LookupError", .type "Exception", .type "BaseException", .type "object"] "LookupError.__new__" "NoPerson" ["height"], iniB "NoPerson", exmT [("Blocked", true), ("NoPerson", true)] [.inl "Barred", .inl "Blocked", .inl "NoPerson", .inl "NoPlace"], kitTs [("Blocked", false), ("NoPerson", true)] [.inl "Barred", .inl "NoPerson", .inl "NoPlace"], kitT1 [("Blocked", true), ("NoPerson", false)] (.inl "Blocked"), kitT1 [("Blocked", true), ("NoPerson", false)] (.inr "RuntimeError"), kitTs [("Blocked", true), ("NoPerson", false)] [.inl "Barred", .inl "Blocked", .inl "NoPlace"]]
def fxE1 : List Fx := [kitT1 [("Blocked", false), ("NoPerson", true)] (.inl "NoPerson"), kitT1 [("Blocked", false), ("NoPerson", true)] (.inr "LookupError"), attT ["NoPerson"] "height", attT ["Blocked"] "pair"]
def fxE : List Fx := fxE0 ++ fxE1
def faE0 : List He.Fa := [.glo "place_of", .glo "are_lower", .glo "sees_at", .glo "sees", .glo "sights", .glo "exchanges", .glo "look_exchange", .glo "swapped", .glo "exchanged", .glo "_law_cell_at", .glo "_law_box", .glo "_law_take", .glo "_law_of", .glo "_law_same", .glo "_law_strewn", .glo "_law_souls", .glo "_law_crowd", .glo "_law_sees", .glo "_law_swaps", .glo "_law_turned"]
def faE1 : List He.Fa := [.glo "_law_told", .glo "_law_seen", .glo "_law_sight_right", .glo "_law_right", .glo "law", .free "len", .free "abs", .free "int", .free "max", .free "min", .free "list", .free "tuple", .free "all", .free "sorted", .free "zip", .free "range", .free "isinstance", .free "str", .free "bool", .glo "NoPerson"]
def faE2 : List He.Fa := [.glo "NoPlace", .glo "Blocked", .glo "Barred", .free "LookupError", .free "RuntimeError"]
def faEa : List He.Fa := faE0 ++ faE1
def faEb : List He.Fa := faE2
def faE : List He.Fa := faEa ++ faEb
def namesE0 : List PySem.Str := ["NoPerson", "NoPlace", "Blocked", "Barred", "place_of", "are_lower", "sees_at", "sees", "sights", "exchanges", "look_exchange", "swapped", "exchanged", "_law_cell_at", "_law_box", "_law_take", "_law_of", "_law_same", "_law_strewn", "_law_souls"]
def namesE1 : List PySem.Str := ["_law_crowd", "_law_sees", "_law_swaps", "_law_turned", "_law_told", "_law_seen", "_law_sight_right", "_law_right"]
def namesE : List PySem.Str := namesE0 ++ namesE1
abbrev RE : PySem.W.OpenRow := PySem.W.OpenLaw.row PySem.Challenge.rw_overlooks_k03_sights_and_exchanges
abbrev hkE : PySem.W.Hook := hookX 4 fxE faE fnE
def obE (s : PySem.W.SharedT) : He.AlD := obsXG 4 fxE faE fnE (HandSHeadRun.getT s)
theorem obE_eq (s : PySem.W.SharedT) : obE s = hkE.obs s.abs := obsXG_eq (HandSHeadRun.getT_eq s)
theorem runE (w : World) : HandSHeadRun.RunEq RE (PySem.W.view RE.prog [32]) hkE obE 4000 namesE w := by
  intro os
  kernel_rfl
theorem factsE {P : Program} {w : World} {K : PySem.W.Frag} {h : Heap} {mg : Str → Option Value} {f : Addr} (X : K.In h) (G : h.Ns mainGlobals mg) (hfa : mg ("law" : Str) = some (.ref f)) (cx : SaysX fxE faE fnE K) :
    ∃ (fd : FuncData) (cl : Str → Addr), (∀ (s : Shared) (v : Value), BindsTo s fd ⟨[v], []⟩ [("_law_script", v)]) ∧ ∀ base : Heap, K.In base → base.Ns mainGlobals mg → FnG P w K mg base (L2.CX P w) 9 f fd ["_law_script"] (@spF ⟨K⟩ K cl 1 fn_law) := by
  letI : DL.Tx := ⟨K⟩
  have c := cx.old
  obtain ⟨d_place_of, D_place_of⟩ := c.def_ 0 (d := e_place_of) rfl
  obtain ⟨d_are_lower, D_are_lower⟩ := c.def_ 1 (d := e_are_lower) rfl
  obtain ⟨d_sees_at, D_sees_at⟩ := c.def_ 2 (d := e_sees_at) rfl
  obtain ⟨d_sees, D_sees⟩ := c.def_ 3 (d := e_sees) rfl
  obtain ⟨d_sights, D_sights⟩ := c.def_ 4 (d := e_sights) rfl
  obtain ⟨d_exchanges, D_exchanges⟩ := c.def_ 5 (d := e_exchanges) rfl
  obtain ⟨d_look_exchange, D_look_exchange⟩ := c.def_ 6 (d := e_look_exchange) rfl
  obtain ⟨d_swapped, D_swapped⟩ := c.def_ 7 (d := e_swapped) rfl
  obtain ⟨d_exchanged, D_exchanged⟩ := c.def_ 8 (d := e_exchanged) rfl
  obtain ⟨d_law_cell_at, D_law_cell_at⟩ := c.def_ 9 (d := e_law_cell_at) rfl
  obtain ⟨d_law_box, D_law_box⟩ := c.def_ 10 (d := e_law_box) rfl
  obtain ⟨d_law_take, D_law_take⟩ := c.def_ 11 (d := e_law_take) rfl
  obtain ⟨d_law_of, D_law_of⟩ := c.def_ 12 (d := e_law_of) rfl
  obtain ⟨d_law_same, D_law_same⟩ := c.def_ 13 (d := e_law_same) rfl
  obtain ⟨d_law_strewn, D_law_strewn⟩ := c.def_ 14 (d := e_law_strewn) rfl
  obtain ⟨d_law_souls, D_law_souls⟩ := c.def_ 15 (d := e_law_souls) rfl
  obtain ⟨d_law_crowd, D_law_crowd⟩ := c.def_ 16 (d := e_law_crowd) rfl
  obtain ⟨d_law_sees, D_law_sees⟩ := c.def_ 17 (d := e_law_sees) rfl
  obtain ⟨d_law_swaps, D_law_swaps⟩ := c.def_ 18 (d := e_law_swaps) rfl
  obtain ⟨d_law_turned, D_law_turned⟩ := c.def_ 19 (d := e_law_turned) rfl
  obtain ⟨d_law_told, D_law_told⟩ := c.def_ 20 (d := e_law_told) rfl
  obtain ⟨d_law_seen, D_law_seen⟩ := c.def_ 21 (d := e_law_seen) rfl
  obtain ⟨d_law_sight_right, D_law_sight_right⟩ := c.def_ 22 (d := e_law_sight_right) rfl
  obtain ⟨d_law_right, D_law_right⟩ := c.def_ 23 (d := e_law_right) rfl
  obtain ⟨d_law, D_law⟩ := c.def_ 24 (d := e_law) rfl
  have e := hfa.symm.trans (He.glo_ok X G (c.fact 24 (f := .glo "law") rfl))
  cases e
  have b := FunD.bindsA (ps := ["_law_script"]) D_law fun _ _ _ _ _ _ us hl => match us, hl with | [_], _ => rfl
  have F_place_of := fun_of (st := s_place_of) D_place_of
  have b_place_of := F_place_of.binds (ps := ["row", "height"]) fun _ _ _ _ _ _ us hl => match us, hl with | [_, _], _ => rfl
  have F_are_lower := fun_of (st := s_are_lower) D_are_lower
  have b_are_lower := F_are_lower.binds (ps := ["row", "start", "end", "height"]) fun _ _ _ _ _ _ us hl => match us, hl with | [_, _, _, _], _ => rfl
  have F_sees_at := fun_of (st := s_sees_at) D_sees_at
  have b_sees_at := F_sees_at.binds (ps := ["row", "i", "j"]) fun _ _ _ _ _ _ us hl => match us, hl with | [_, _, _], _ => rfl
  have F_sees := fun_of (st := s_sees) D_sees
  have b_sees := F_sees.binds (ps := ["row", "one", "other"]) fun _ _ _ _ _ _ us hl => match us, hl with | [_, _, _], _ => rfl
  have F_sights := fun_of (st := s_sights) D_sights
  have b_sights := F_sights.binds (ps := ["row"]) fun _ _ _ _ _ _ us hl => match us, hl with | [_], _ => rfl
  have F_exchanges := fun_of (st := s_exchanges) D_exchanges
  have b_exchanges := F_exchanges.binds (ps := ["row"]) fun _ _ _ _ _ _ us hl => match us, hl with | [_], _ => rfl
  have F_look_exchange := fun_of (st := s_look_exchange) D_look_exchange
  have b_look_exchange := F_look_exchange.binds (ps := ["row", "pair"]) fun _ _ _ _ _ _ us hl => match us, hl with | [_, _], _ => rfl
  have F_swapped := fun_of (st := s_swapped) D_swapped
  have b_swapped := F_swapped.binds (ps := ["row", "pair"]) fun _ _ _ _ _ _ us hl => match us, hl with | [_, _], _ => rfl
  have F_exchanged := fun_of (st := s_exchanged) D_exchanged
  have b_exchanged := F_exchanged.binds (ps := ["row", "pair"]) fun _ _ _ _ _ _ us hl => match us, hl with | [_, _], _ => rfl
  have F_law_cell_at := fun_of (st := s_law_cell_at) D_law_cell_at
  have b_law_cell_at := F_law_cell_at.binds (ps := ["_law_script", "_law_k"]) fun _ _ _ _ _ _ us hl => match us, hl with | [_, _], _ => rfl
  have F_law_box := fun_of (st := s_law_box) D_law_box
  have b_law_box := F_law_box.binds (ps := ["_law_script", "_law_k"]) fun _ _ _ _ _ _ us hl => match us, hl with | [_, _], _ => rfl
  have F_law_take := fun_of (st := s_law_take) D_law_take
  have b_law_take := F_law_take.binds (ps := ["_law_box_here", "_law_below"]) fun _ _ _ _ _ _ us hl => match us, hl with | [_, _], _ => rfl
  have F_law_of := fun_of (st := s_law_of) D_law_of
  have b_law_of := F_law_of.binds (ps := ["_law_box_here", "_law_some"]) fun _ _ _ _ _ _ us hl => match us, hl with | [_, _], _ => rfl
  have F_law_same := fun_of (st := s_law_same) D_law_same
  have b_law_same := F_law_same.binds (ps := ["_law_found", "_law_due"]) fun _ _ _ _ _ _ us hl => match us, hl with | [_, _], _ => rfl
  have F_law_strewn := fun_of (st := s_law_strewn) D_law_strewn
  have b_law_strewn := F_law_strewn.binds (ps := ["_law_box_here", "_law_some"]) fun _ _ _ _ _ _ us hl => match us, hl with | [_, _], _ => rfl
  have F_law_souls := fun_of (st := s_law_souls) D_law_souls
  have b_law_souls := F_law_souls.binds (ps := ["_law_box_here", "_law_count"]) fun _ _ _ _ _ _ us hl => match us, hl with | [_, _], _ => rfl
  have F_law_crowd := fun_of (st := s_law_crowd) D_law_crowd
  have b_law_crowd := F_law_crowd.binds (ps := ["_law_box_here", "_law_most"]) fun _ _ _ _ _ _ us hl => match us, hl with | [_, _], _ => rfl
  have F_law_sees := fun_of (st := s_law_sees) D_law_sees
  have b_law_sees := F_law_sees.binds (ps := ["_law_crowd_here", "_law_i", "_law_j"]) fun _ _ _ _ _ _ us hl => match us, hl with | [_, _, _], _ => rfl
  have F_law_swaps := fun_of (st := s_law_swaps) D_law_swaps
  have b_law_swaps := F_law_swaps.binds (ps := ["_law_crowd_here"]) fun _ _ _ _ _ _ us hl => match us, hl with | [_], _ => rfl
  have F_law_turned := fun_of (st := s_law_turned) D_law_turned
  have b_law_turned := F_law_turned.binds (ps := ["_law_crowd_here", "_law_swap"]) fun _ _ _ _ _ _ us hl => match us, hl with | [_, _], _ => rfl
  have F_law_told := fun_of (st := s_law_told) D_law_told
  have b_law_told := F_law_told.binds (ps := ["_law_crowd_here", "_law_swap"]) fun _ _ _ _ _ _ us hl => match us, hl with | [_, _], _ => rfl
  have F_law_seen := fun_of (st := s_law_seen) D_law_seen
  have b_law_seen := F_law_seen.binds (ps := ["_law_crowd_here", "_law_a", "_law_b"]) fun _ _ _ _ _ _ us hl => match us, hl with | [_, _, _], _ => rfl
  have F_law_sight_right := fun_of (st := s_law_sight_right) D_law_sight_right
  have b_law_sight_right := F_law_sight_right.binds (ps := ["_law_crowd_here", "_law_listed", "_law_a", "_law_b"]) fun _ _ _ _ _ _ us hl => match us, hl with | [_, _, _, _], _ => rfl
  have F_law_right := fun_of (st := s_law_right) D_law_right
  have b_law_right := F_law_right.binds (ps := ["_law_box_here"]) fun _ _ _ _ _ _ us hl => match us, hl with | [_], _ => rfl
  have F_law := fun_of (st := s_law) D_law
  have b_law := F_law.binds (ps := ["_law_script"]) fun _ _ _ _ _ _ us hl => match us, hl with | [_], _ => rfl
  obtain ⟨di_Blocked, Di_Blocked⟩ := c.def_ 25 (d := ei_Blocked) rfl
  have Fi_Blocked := fun_of (st := si_Blocked) Di_Blocked
  have bi_Blocked := Fi_Blocked.binds (ps := ["self", "pair"]) fun _ _ _ _ _ _ us hl => match us, hl with | [_, _], _ => rfl
  have T_Blocked := oexB_ok (initId := "RuntimeError.__init__") PySem.F.excBase_RuntimeError PySem.F.store_RuntimeError (cx.own 3)
  have ini_Blocked := iniB_ok (cx.own 4)
  obtain ⟨di_NoPerson, Di_NoPerson⟩ := c.def_ 26 (d := ei_NoPerson) rfl
  have Fi_NoPerson := fun_of (st := si_NoPerson) Di_NoPerson
  have bi_NoPerson := Fi_NoPerson.binds (ps := ["self", "height"]) fun _ _ _ _ _ _ us hl => match us, hl with | [_, _], _ => rfl
  have T_NoPerson := oexB_ok (initId := "LookupError.__init__") PySem.F.excBase_LookupError PySem.F.store_LookupError (cx.own 5)
  have ini_NoPerson := iniB_ok (cx.own 6)
  have exA := cx.own 0 (f := excA ["Blocked", "NoPerson"])
  have kk_1 := kitTs_ok (cx.own 8) exA rfl
  have kk_2 := kitT1_ok (cx.own 9) exA rfl
  have kk_3 := kitT1_ok (cx.own 10) exA rfl
  have kk_4 := kitTs_ok (cx.own 11) exA rfl
  have kk_5 := kitT1_ok (cx.own 12) exA rfl
  have kk_6 := kitT1_ok (cx.own 13) exA rfl
  have kb_exchanged_1_0 := DL.Fun.kbindsN (ps := ["row", "pair"] ) (ks := ["pair", "row"]) [1, 0] F_exchanged (by simp) (fun _ _ _ _ _ _ ws hl => by
    match ws, hl with
    | a0 :: a1 :: _, _ => rfl
    | [], hl => exact absurd hl (by simp [permI])
    | [a0], hl => exact absurd hl (by simp [permI])
    )
  have kb_sees_2_1_0 := DL.Fun.kbindsN (ps := ["row", "one", "other"] ) (ks := ["other", "one", "row"]) [2, 1, 0] F_sees (by simp) (fun _ _ _ _ _ _ ws hl => by
    match ws, hl with
    | a0 :: a1 :: a2 :: _, _ => rfl
    | [], hl => exact absurd hl (by simp [permI])
    | [a0], hl => exact absurd hl (by simp [permI])
    | [a0, a1], hl => exact absurd hl (by simp [permI])
    )
  have kb_exchanges_0 := DL.Fun.kbindsN (ps := ["row"] ) (ks := ["row"]) [0] F_exchanges (by simp) (fun _ _ _ _ _ _ ws hl => by
    match ws, hl with
    | a0 :: _, _ => rfl
    | [], hl => exact absurd hl (by simp [permI])
    )
  have kb_sights_0 := DL.Fun.kbindsN (ps := ["row"] ) (ks := ["row"]) [0] F_sights (by simp) (fun _ _ _ _ _ _ ws hl => by
    match ws, hl with
    | a0 :: _, _ => rfl
    | [], hl => exact absurd hl (by simp [permI])
    )
  let Y : Fs K mg := { cl := He.ga K, fi_Blocked := _, di_Blocked := di_Blocked, Fi_Blocked := Fi_Blocked, bi_Blocked := bi_Blocked, T_Blocked := T_Blocked.1, ii_Blocked := ini_Blocked.1, ti_Blocked := ini_Blocked.2, n_Blocked := T_Blocked.2 _ (by simp), fi_NoPerson := _, di_NoPerson := di_NoPerson, Fi_NoPerson := Fi_NoPerson, bi_NoPerson := bi_NoPerson, T_NoPerson := T_NoPerson.1, ii_NoPerson := ini_NoPerson.1, ti_NoPerson := ini_NoPerson.2, n_NoPerson := T_NoPerson.2 _ (by simp), v_LookupError := basB_ok (cx.own 1), v_RuntimeError := basB_ok (cx.own 2), m_NoPerson := He.glo_ok X G (c.fact 39 (f := .glo "NoPerson") rfl), m_NoPlace := He.glo_ok X G (c.fact 40 (f := .glo "NoPlace") rfl), m_Blocked := He.glo_ok X G (c.fact 41 (f := .glo "Blocked") rfl), m_Barred := He.glo_ok X G (c.fact 42 (f := .glo "Barred") rfl), m_LookupError := He.free_ok X G (c.fact 43 (f := .free "LookupError") rfl), m_RuntimeError := He.free_ok X G (c.fact 44 (f := .free "RuntimeError") rfl), x_0 := exmT_ok (cx.own 7), k_1 := kk_1.1, z_1 := kk_1.2, k_2 := kk_2.1, z_2 := kk_2.2, k_3 := kk_3.1, z_3 := kk_3.2, k_4 := kk_4.1, z_4 := kk_4.2, k_5 := kk_5.1, z_5 := kk_5.2, k_6 := kk_6.1, z_6 := kk_6.2, at_height := attT_ok (cx.own 14) exA (by decide), at_pair := attT_ok (cx.own 15) exA (by decide), kb_exchanged_1_0 := kb_exchanged_1_0, kb_sees_2_1_0 := kb_sees_2_1_0, kb_exchanges_0 := kb_exchanges_0, kb_sights_0 := kb_sights_0, f_place_of := _, d_place_of := d_place_of, F_place_of := F_place_of, m_place_of := He.glo_ok X G (c.fact 0 (f := .glo "place_of") rfl), b_place_of := b_place_of, f_are_lower := _, d_are_lower := d_are_lower, F_are_lower := F_are_lower, m_are_lower := He.glo_ok X G (c.fact 1 (f := .glo "are_lower") rfl), b_are_lower := b_are_lower, f_sees_at := _, d_sees_at := d_sees_at, F_sees_at := F_sees_at, m_sees_at := He.glo_ok X G (c.fact 2 (f := .glo "sees_at") rfl), b_sees_at := b_sees_at, f_sees := _, d_sees := d_sees, F_sees := F_sees, m_sees := He.glo_ok X G (c.fact 3 (f := .glo "sees") rfl), b_sees := b_sees, f_sights := _, d_sights := d_sights, F_sights := F_sights, m_sights := He.glo_ok X G (c.fact 4 (f := .glo "sights") rfl), b_sights := b_sights, f_exchanges := _, d_exchanges := d_exchanges, F_exchanges := F_exchanges, m_exchanges := He.glo_ok X G (c.fact 5 (f := .glo "exchanges") rfl), b_exchanges := b_exchanges, f_look_exchange := _, d_look_exchange := d_look_exchange, F_look_exchange := F_look_exchange, m_look_exchange := He.glo_ok X G (c.fact 6 (f := .glo "look_exchange") rfl), b_look_exchange := b_look_exchange, f_swapped := _, d_swapped := d_swapped, F_swapped := F_swapped, m_swapped := He.glo_ok X G (c.fact 7 (f := .glo "swapped") rfl), b_swapped := b_swapped, f_exchanged := _, d_exchanged := d_exchanged, F_exchanged := F_exchanged, m_exchanged := He.glo_ok X G (c.fact 8 (f := .glo "exchanged") rfl), b_exchanged := b_exchanged, f_law_cell_at := _, d_law_cell_at := d_law_cell_at, F_law_cell_at := F_law_cell_at, m_law_cell_at := He.glo_ok X G (c.fact 9 (f := .glo "_law_cell_at") rfl), b_law_cell_at := b_law_cell_at, f_law_box := _, d_law_box := d_law_box, F_law_box := F_law_box, m_law_box := He.glo_ok X G (c.fact 10 (f := .glo "_law_box") rfl), b_law_box := b_law_box, f_law_take := _, d_law_take := d_law_take, F_law_take := F_law_take, m_law_take := He.glo_ok X G (c.fact 11 (f := .glo "_law_take") rfl), b_law_take := b_law_take, f_law_of := _, d_law_of := d_law_of, F_law_of := F_law_of, m_law_of := He.glo_ok X G (c.fact 12 (f := .glo "_law_of") rfl), b_law_of := b_law_of, f_law_same := _, d_law_same := d_law_same, F_law_same := F_law_same, m_law_same := He.glo_ok X G (c.fact 13 (f := .glo "_law_same") rfl), b_law_same := b_law_same, f_law_strewn := _, d_law_strewn := d_law_strewn, F_law_strewn := F_law_strewn, m_law_strewn := He.glo_ok X G (c.fact 14 (f := .glo "_law_strewn") rfl), b_law_strewn := b_law_strewn, f_law_souls := _, d_law_souls := d_law_souls, F_law_souls := F_law_souls, m_law_souls := He.glo_ok X G (c.fact 15 (f := .glo "_law_souls") rfl), b_law_souls := b_law_souls, f_law_crowd := _, d_law_crowd := d_law_crowd, F_law_crowd := F_law_crowd, m_law_crowd := He.glo_ok X G (c.fact 16 (f := .glo "_law_crowd") rfl), b_law_crowd := b_law_crowd, f_law_sees := _, d_law_sees := d_law_sees, F_law_sees := F_law_sees, m_law_sees := He.glo_ok X G (c.fact 17 (f := .glo "_law_sees") rfl), b_law_sees := b_law_sees, f_law_swaps := _, d_law_swaps := d_law_swaps, F_law_swaps := F_law_swaps, m_law_swaps := He.glo_ok X G (c.fact 18 (f := .glo "_law_swaps") rfl), b_law_swaps := b_law_swaps, f_law_turned := _, d_law_turned := d_law_turned, F_law_turned := F_law_turned, m_law_turned := He.glo_ok X G (c.fact 19 (f := .glo "_law_turned") rfl), b_law_turned := b_law_turned, f_law_told := _, d_law_told := d_law_told, F_law_told := F_law_told, m_law_told := He.glo_ok X G (c.fact 20 (f := .glo "_law_told") rfl), b_law_told := b_law_told, f_law_seen := _, d_law_seen := d_law_seen, F_law_seen := F_law_seen, m_law_seen := He.glo_ok X G (c.fact 21 (f := .glo "_law_seen") rfl), b_law_seen := b_law_seen, f_law_sight_right := _, d_law_sight_right := d_law_sight_right, F_law_sight_right := F_law_sight_right, m_law_sight_right := He.glo_ok X G (c.fact 22 (f := .glo "_law_sight_right") rfl), b_law_sight_right := b_law_sight_right, f_law_right := _, d_law_right := d_law_right, F_law_right := F_law_right, m_law_right := He.glo_ok X G (c.fact 23 (f := .glo "_law_right") rfl), b_law_right := b_law_right, f_law := _, d_law := d_law, F_law := F_law, m_law := He.glo_ok X G (c.fact 24 (f := .glo "law") rfl), b_law := b_law, m_len := He.free_ok X G (c.fact 25 (f := .free "len") rfl), m_abs := He.free_ok X G (c.fact 26 (f := .free "abs") rfl), m_int := He.free_ok X G (c.fact 27 (f := .free "int") rfl), m_max := He.free_ok X G (c.fact 28 (f := .free "max") rfl), m_min := He.free_ok X G (c.fact 29 (f := .free "min") rfl), m_list := He.free_ok X G (c.fact 30 (f := .free "list") rfl), m_tuple := He.free_ok X G (c.fact 31 (f := .free "tuple") rfl), m_all := He.free_ok X G (c.fact 32 (f := .free "all") rfl), m_sorted := He.free_ok X G (c.fact 33 (f := .free "sorted") rfl), m_zip := He.free_ok X G (c.fact 34 (f := .free "zip") rfl), m_range := He.free_ok X G (c.fact 35 (f := .free "range") rfl), m_isinstance := He.free_ok X G (c.fact 36 (f := .free "isinstance") rfl), m_str := He.free_ok X G (c.fact 37 (f := .free "str") rfl), m_bool := He.free_ok X G (c.fact 38 (f := .free "bool") rfl) }
  exact ⟨d_law, Y.cl, fun s v => b s [v] rfl, fun base _ _ => ok_law Y⟩
end LawP
open PySem PySem.W PySem.Calls PyProof.Rows
theorem PySem.Challenge.cw_overlooks_k03_sights_and_exchanges_holds : PySem.Challenge.rw_overlooks_k03_sights_and_exchanges.Holds := by
  w_on; o_law
  refine HandSHeadRun.head_any (r := OpenLaw.row PySem.Challenge.rw_overlooks_k03_sights_and_exchanges) (q := view (OpenLaw.row PySem.Challenge.rw_overlooks_k03_sights_and_exchanges).prog [32]) (H := LawP.hkE) (ob := LawP.obE) (M := 4000) (loose := LawP.namesE) (d := HandSHeadRun.topDef (OpenLaw.row PySem.Challenge.rw_overlooks_k03_sights_and_exchanges).prog 32) (kwd := []) LawP.obE_eq
    (by kernel_rfl) (fun s => by kernel_rfl) LawP.runE (by kernel_rfl) (by kernel_rfl) (by kernel_rfl) (by rfl) (by first | assumption | decide +kernel) (by decide +kernel) ⟨rfl, rfl, rfl, rfl, rfl, by decide +kernel⟩ ?hw ?hc
  case hw => w_witness2
  case hc =>
    refine DL.walkF (l := PySem.Challenge.rw_overlooks_k03_sights_and_exchanges) (n := 63) (k := 9) (x := "_law_script") (fn := DL.fn_law) rfl (by decide) (by kernel_rfl) ⟨rfl, by decide, by decide⟩ (fun ns _ => DL.law_true ns) ?F
    intro w mg fa h Y G hmg0
    obtain ⟨K, KX, c⟩ := Y
    have hmg : mg ("law" : PySem.Str) = some (.ref fa) := by
      have e : (HandSHeadRun.topDef (OpenLaw.row PySem.Challenge.rw_overlooks_k03_sights_and_exchanges).prog 32).name = ("law" : PySem.Str) := by kernel_rfl
      rw [← e]
      exact hmg0
    obtain ⟨fd, cl, hb, hF⟩ := LawP.factsE (P := (PySem.Challenge.rw_overlooks_k03_sights_and_exchanges).prog) (w := w) KX G hmg c
    exact ⟨K, fd, cl, KX, hb, hF⟩
