import PyProof.Rows.All
import Wide.All
import OpenK.AllK
import Wide.FinOn
import HandS.ForMost
import HandS.Exc
import HandS.ExcInit
import HandS.ExcField
import HandS.WordsExc
import HandS.Defaults
import HandS.IsInst
import HandS.Style
import HandS.Zip
import HandS.TupMul
import HandS.TupAny
import HandS.Deep
import KE.GoesMore
import HandS.HeadWalk
import HandS.Conv
import KE.KStateDown
import HandS.Lambda
import HandS.EndTab
import HandS.Head0
import HandS.Head1
import HandS.Head2
import HandS.HeadEnd
import HandS.HeadHook1
import HandS.HeadHook2
import HandS.HeadHook3
import HandS.HeadHook4
import PySem.Challenge.RW_watchedbeach_k06_whole_lamps_of_shores
set_option Elab.async false
set_option linter.all false
set_option maxRecDepth 100000
set_option maxHeartbeats 4000000
namespace Fw
open PySem PySem.Spec PyProof.Rows L2
open Classical

mutual
theorem dp_mono {K : PySem.W.Frag} {H H' : Hp} (e : Same H H') : ∀ {d : PyData} {v : V}, Dp K H v d → Dp K H' v d
  | .none, _, h => by cases h; exact .non
  | .bool b, _, h => by cases h; exact .bl b
  | .int i, _, h => by cases h; exact .int i
  | .str x, _, h => by cases h; exact .str x
  | .list ds, _, h => by
    cases h with
    | lst hs ha => exact .lst (e.seq hs) (dpAll_mono e ha)
  | .tuple ds, _, h => by
    cases h with
    | tup hs ha =>
      refine .tup ?_ (dpAll_mono e ha)
      rcases hs with (h | ⟨o, h⟩) | h
      · exact .inl (.inl (e _ _ h))
      · exact .inl (.inr ⟨o, e _ _ h⟩)
      · exact .inr h
  | .dict _, _, h => by cases h
theorem dpAll_mono {K : PySem.W.Frag} {H H' : Hp} (e : Same H H') : ∀ {ds : List PyData} {vs : List V}, DpAll K H vs ds → DpAll K H' vs ds
  | [], _, h => by cases h; exact .nil
  | d :: ds, _, h => by
    cases h with
    | cons h1 h2 => exact .cons (dp_mono e h1) (dpAll_mono e h2)
end
section
variable {K : PySem.W.Frag} {H H' : Hp} {vs ws : List V} {ds es : List PyData} {v : V} {d : PyData}
theorem seqT_mono {a : Addr} (e : Same H H') (h : SqT K H a vs) : SqT K H' a vs := by
  rcases h with (h | ⟨o, h⟩) | h
  · exact .inl (.inl (e _ _ h))
  · exact .inl (.inr ⟨o, e _ _ h⟩)
  · exact .inr h
theorem dpAll_len : ∀ {vs : List V} {ds : List PyData}, DpAll K H vs ds → vs.length = ds.length
  | _, _, .nil => rfl
  | _, _, .cons _ h => by rw [List.length_cons, List.length_cons, dpAll_len h]
theorem dpAll_get : ∀ {vs : List V} {ds : List PyData} {i : Nat} {d : PyData}, DpAll K H vs ds → ds[i]? = some d → ∃ v, vs[i]? = some v ∧ Dp K H v d
  | _, _, _, _, .nil, h => by simp at h
  | _, _, 0, _, .cons h1 _, h => by
    simp at h
    subst h
    exact ⟨_, rfl, h1⟩
  | _, _, i + 1, d, .cons _ h2, h => by
    obtain ⟨v, e, r⟩ := dpAll_get (i := i) h2 (by simpa using h)
    exact ⟨v, by simpa using e, r⟩
theorem dpAll_getV : ∀ {vs : List V} {ds : List PyData} {i : Nat} {v : V}, DpAll K H vs ds → vs[i]? = some v → ∃ d, ds[i]? = some d ∧ Dp K H v d
  | _, _, _, _, .nil, h => by simp at h
  | _, _, 0, _, .cons h1 _, h => by
    simp at h
    subst h
    exact ⟨_, rfl, h1⟩
  | _, _, i + 1, d, .cons _ h2, h => by
    obtain ⟨v, e, r⟩ := dpAll_getV (i := i) h2 (by simpa using h)
    exact ⟨v, by simpa using e, r⟩
theorem dpAll_app : ∀ {vs ws : List V} {ds es : List PyData}, DpAll K H vs ds → DpAll K H ws es → DpAll K H (vs ++ ws) (ds ++ es)
  | _, _, _, _, .nil, h => h
  | _, _, _, _, .cons a b, h => .cons a (dpAll_app b h)
theorem dpAll_take : ∀ {vs : List V} {ds : List PyData} (n : Nat), DpAll K H vs ds → DpAll K H (vs.take n) (ds.take n)
  | _, _, 0, _ => .nil
  | _, _, _ + 1, .nil => .nil
  | _, _, n + 1, .cons a b => .cons a (dpAll_take n b)
theorem dpAll_drop : ∀ {vs : List V} {ds : List PyData} (n : Nat), DpAll K H vs ds → DpAll K H (vs.drop n) (ds.drop n)
  | _, _, 0, h => h
  | _, _, _ + 1, .nil => .nil
  | _, _, n + 1, .cons _ b => dpAll_drop n b
theorem dpAll_set : ∀ {vs : List V} {ds : List PyData} {v : V} {d : PyData} (n : Nat), DpAll K H vs ds → Dp K H v d → DpAll K H (vs.set n v) (ds.set n d)
  | _, _, _, _, _, .nil, _ => .nil
  | _, _, _, _, 0, .cons _ b, h => .cons h b
  | _, _, _, _, n + 1, .cons a b, h => .cons a (dpAll_set n b h)
theorem dpAll_erase : ∀ {vs : List V} {ds : List PyData} (n : Nat), DpAll K H vs ds → DpAll K H (vs.eraseIdx n) (ds.eraseIdx n)
  | _, _, _, .nil => .nil
  | _, _, 0, .cons _ b => b
  | _, _, n + 1, .cons a b => .cons a (dpAll_erase n b)
theorem dpAll_dropLast : ∀ {vs : List V} {ds : List PyData}, DpAll K H vs ds → DpAll K H vs.dropLast ds.dropLast
  | _, _, .nil => .nil
  | _, _, .cons a .nil => .nil
  | _, _, .cons a (.cons b c) => .cons a (dpAll_dropLast (.cons b c))
theorem dpAll_one (h : Dp K H v d) : DpAll K H [v] [d] := .cons h .nil
theorem dpAll_rev : ∀ {vs : List V} {ds : List PyData}, DpAll K H vs ds → DpAll K H vs.reverse ds.reverse
  | _, _, .nil => .nil
  | _, _, .cons a b => by
    rw [List.reverse_cons, List.reverse_cons]
    exact dpAll_app (dpAll_rev b) (dpAll_one a)
theorem dpAll_rep (h : DpAll K H vs ds) : ∀ k : Nat, DpAll K H (List.replicate k vs).flatten (List.replicate k ds).flatten
  | 0 => .nil
  | k + 1 => by
    rw [List.replicate_succ, List.replicate_succ, List.flatten_cons, List.flatten_cons]
    exact dpAll_app h (dpAll_rep h k)
theorem dpAll_of : ∀ {vs : List V} {ds : List PyData}, vs.length = ds.length → (∀ (i : Nat) (v : V) (d : PyData), vs[i]? = some v → ds[i]? = some d → Dp K H v d) → DpAll K H vs ds
  | [], [], _, _ => .nil
  | v :: vs, d :: ds, h, k => .cons (k 0 v d rfl rfl) (dpAll_of (by simpa using h) fun i v d e1 e2 => k (i + 1) v d (by simpa using e1) (by simpa using e2))
theorem dp_tuple (h : Dp K H v (.tuple ds)) : ∃ a vs, v = .ref a ∧ SqT K H a vs ∧ DpAll K H vs ds := by
  cases h with
  | tup h1 h2 => exact ⟨_, _, rfl, h1, h2⟩
theorem dp_list (h : Dp K H v (.list ds)) : ∃ a vs, v = .ref a ∧ SqL K H a vs ∧ DpAll K H vs ds := by
  cases h with
  | lst h1 h2 => exact ⟨_, _, rfl, h1, h2⟩
theorem dp_int {i : Int} (h : Dp K H v (.int i)) : v = .int i := by
  cases h; rfl
theorem dp_bool {b : Bool} (h : Dp K H v (.bool b)) : v = .bl b := by
  cases h; rfl
theorem dp_str {b : Str} (h : Dp K H v (.str b)) : v = .str b := by
  cases h; rfl
theorem dp_none (h : Dp K H v .none) : v = .non := by
  cases h; rfl
theorem dpAll_ints : ∀ {vs : List V} {ns : List Int}, DpAll K H vs (ns.map PyData.int) → vs = ns.map V.int
  | _, [], h => by cases h; rfl
  | _, n :: ns, h => by
    cases h with
    | cons h1 h2 => rw [dp_int h1, dpAll_ints h2]; rfl
theorem dpAll_bools : ∀ {vs : List V} {ns : List Bool}, DpAll K H vs (ns.map PyData.bool) → vs = ns.map V.bl
  | _, [], h => by cases h; rfl
  | _, n :: ns, h => by
    cases h with
    | cons h1 h2 => rw [dp_bool h1, dpAll_bools h2]; rfl
theorem ints_dpAll : ∀ (ns : List Int), DpAll K H (ns.map V.int) (ns.map PyData.int)
  | [] => .nil
  | n :: ns => .cons (.int n) (ints_dpAll ns)
theorem dp_ref {a : Addr} (h : Dp K H (.ref a) d) : (∃ ds, d = .list ds) ∨ ∃ ds, d = .tuple ds := by
  cases h with
  | lst h1 h2 => exact .inl ⟨_, rfl⟩
  | tup h1 h2 => exact .inr ⟨_, rfl⟩
end

/-- no table of code objects -/
def NT : HO → Prop
  | .tbl _ => False
  | _ => True
def ntF : Option HO → Option HO
  | some (.tbl _) => none
  | x => x
theorem ntF_some {x : Option HO} {o : HO} (h : ntF x = some o) : NT o ∧ x = some o := by
  unfold ntF at h
  split at h
  · cases h
  · subst h
    refine ⟨?_, rfl⟩
    cases o <;> first | trivial | (rename_i n; exact absurd rfl (n _))
/-- tracked, and no table -/
def NTd (H : Hp) (a : Addr) : Prop := ∃ o, H a = some o ∧ NT o
theorem ntd_none {H : Hp} {a : Addr} (h : H a = none) : ¬ NTd H a := fun ⟨o, e, _⟩ => by rw [h] at e; cases e
theorem ntd_upd {H : Hp} {a b : Addr} {u : HO} (n : NT u) (e : NTd H b) : NTd (upd H a u) b := by
  by_cases z : b = a
  · rw [z]; exact ⟨u, upd_same, n⟩
  · obtain ⟨o, e1, n1⟩ := e
    exact ⟨o, by rw [upd_ne z]; exact e1, n1⟩
theorem ntd_ne {H : Hp} {a : Addr} (h : NTd H a) : H a ≠ none := fun e => ntd_none e h
theorem ntF_nt {o : HO} (h : NT o) : ntF (some o) = some o := by
  cases o <;> first | rfl | exact h.elim
/-- without what is owned, and without the tables -/
noncomputable def hid (O : Addr → Prop) (H : Hp) : Hp := fun a => if O a then none else ntF (H a)
theorem hid_at {O : Addr → Prop} {H : Hp} {a : Addr} (h : ¬ O a) : hid O H a = ntF (H a) := if_neg h
theorem hid_nt {O : Addr → Prop} {H : Hp} {a : Addr} {o : HO} (h : hid O H a = some o) : NT o := by
  unfold hid at h
  split at h
  · cases h
  · exact (ntF_some h).1
theorem hid_some {O : Addr → Prop} {H : Hp} {a : Addr} {o : HO} (h : hid O H a = some o) : ¬ O a ∧ H a = some o := by
  unfold hid at h
  split at h
  · cases h
  · exact ⟨by assumption, (ntF_some h).2⟩
theorem hid_sameN {O O' : Addr → Prop} {H H' : Hp} (h : ∀ a o, NT o → ¬ O a → H a = some o → ¬ O' a ∧ H' a = some o) : Same (hid O H) (hid O' H') := fun a o e => by
  obtain ⟨e1, e2⟩ := hid_some e
  have n := hid_nt e
  obtain ⟨h1, h2⟩ := h a o n e1 e2
  rw [hid_at h1, h2]
  exact ntF_nt n
theorem hid_same {O O' : Addr → Prop} {H H' : Hp} (h : ∀ a o, ¬ O a → H a = some o → ¬ O' a ∧ H' a = some o) : Same (hid O H) (hid O' H') := hid_sameN fun a o _ n e => h a o n e
theorem hid_is {O : Addr → Prop} {H : Hp} {a : Addr} {o : HO} (h : ¬ O a) (e : H a = some o) (n : NT o) : hid O H a = some o := by
  rw [hid_at h, e]
  exact ntF_nt n
theorem hid_sub {O : Addr → Prop} {H : Hp} : Same (hid O H) H := fun a o e => (hid_some e).2

inductive Own where
  | lst (ds : List PyData)
  | dic (kvs : List (Int × PyData))
  | dicT (kvs : List (List Int × PyData))
  | lstR (v0 : V) (ds : List PyData)
inductive Slot where
  | any
  | dat (d : PyData)
  | raw (v : V)
  | own (w : Own)
/-- the pairs of a dict -/
def KVs {α κ : Type} (K : PySem.W.Frag) (G : Hp) (f : α → κ) : List (κ × V) → List (α × PyData) → Prop := Paired fun p q => p.1 = f q.1 ∧ Dp K G p.2 q.2
def OwnOk (K : PySem.W.Frag) (G : Hp) : Own → HO → Prop
  | .lst ds, o => ∃ vs, o = .lst vs ∧ DpAll K G vs ds
  | .dic kvs, o => ∃ ws, o = .dK ws ∧ KVs K G (fun i => (Sum.inl i : Key)) ws kvs
  | .dicT kvs, o => ∃ ws, o = .dT ws ∧ KVs K G (fun (l : List Int) => l.map fun i => (Sum.inl i : Key)) ws kvs
  | .lstR v0 ds, o => ∃ vs, o = .lst vs ∧ vs[0]? = some v0 ∧ DpAll K G vs ds
def SlotOk (K : PySem.W.Frag) (G H : Hp) : Slot → Option V → Option Addr → Prop
  | .any, _, p => p = none
  | .dat d, o, p => p = none ∧ ∃ v, o = some v ∧ Dp K G v d
  | .raw v, o, p => p = none ∧ o = some v
  | .own w, o, p => ∃ a u, p = some a ∧ o = some (.ref a) ∧ H a = some u ∧ OwnOk K G w u
theorem kvs_mono {α κ : Type} {K : PySem.W.Frag} {G G' : Hp} {f : α → κ} {ws : List (κ × V)} {kvs : List (α × PyData)} (e : Same G G') (h : KVs K G f ws kvs) : KVs K G' f ws kvs :=
  Paired.mapP h fun p q z => ⟨z.1, dp_mono e z.2⟩
theorem own_mono {K : PySem.W.Frag} {G G' : Hp} {w : Own} {o : HO} (e : Same G G') (h : OwnOk K G w o) : OwnOk K G' w o := by
  cases w with
  | lst ds => obtain ⟨vs, h1, h2⟩ := h; exact ⟨vs, h1, dpAll_mono e h2⟩
  | dic ds => obtain ⟨vs, h1, h2⟩ := h; exact ⟨vs, h1, kvs_mono e h2⟩
  | dicT ds => obtain ⟨vs, h1, h2⟩ := h; exact ⟨vs, h1, kvs_mono e h2⟩
  | lstR v0 ds => obtain ⟨vs, h1, h0, h2⟩ := h; exact ⟨vs, h1, h0, dpAll_mono e h2⟩

/-- an object that nobody changes -/
def Fixed : HO → Prop
  | .lst _ => False
  | .dK _ => False
  | .dT _ => False
  | _ => True
theorem own_unfixed {K : PySem.W.Frag} {G : Hp} {w : Own} {u : HO} (h : OwnOk K G w u) : ¬ Fixed u := by
  cases w with
  | lst ds => obtain ⟨vs, rfl, _⟩ := h; exact fun z => z
  | dic ds => obtain ⟨vs, rfl, _⟩ := h; exact fun z => z
  | dicT ds => obtain ⟨vs, rfl, _⟩ := h; exact fun z => z
  | lstR v0 ds => obtain ⟨vs, rfl, _⟩ := h; exact fun z => z
theorem nt_unfixed {u : HO} (h : ¬ Fixed u) : NT u := by
  cases u <;> first | trivial | exact h trivial
theorem own_nt {K : PySem.W.Frag} {G : Hp} {w : Own} {u : HO} (h : OwnOk K G w u) : NT u := by
  have := own_unfixed h
  cases u <;> first | trivial | exact this trivial
/-- what is fixed through a def's body: the heap at its entry, what its callers own, what it may change, what it keeps of that, what is wanted of an exception -/
structure Ct where
  H0 : Hp
  O0 : Addr → Prop
  M : Addr → HO → Prop
  I : Hp → Prop
  E : XK
  MO : ∀ a o, NT o → M a o → O0 a
  Ist : ∀ H H', (∀ a o, (NTd H0 a ∨ Fixed o) → H a = some o → H' a = some o) → I H → I H'
/-- the addresses that are owned by callers or by slots -/
def OO (C : Ct) (ps : List (Option Addr)) (a : Addr) : Prop := C.O0 a ∨ some a ∈ ps
structure StOk (K : PySem.W.Frag) (C : Ct) (Γ : List Slot) (σ : L2.St) (ps : List (Option Addr)) (H : Hp) : Prop where
  l1 : Γ.length = σ.length
  l2 : σ.length ≤ ps.length
  th : ∀ a, some a ∈ ps → NTd H a
  fr : ∀ a o, C.H0 a = some o → ¬ C.M a o → H a = some o
  dom : ∀ a, NTd C.H0 a → NTd H a
  od : ∀ a, C.O0 a → NTd C.H0 a
  inv : C.I H
  new : ∀ a, some a ∈ ps → ¬ NTd C.H0 a
  inj : ∀ (i j : Nat) (a : Addr), ps[i]? = some (some a) → ps[j]? = some (some a) → i = j
  sl : ∀ (i : Nat) (s : Slot), Γ[i]? = some s → ∃ o p, σ[i]? = some o ∧ ps[i]? = some p ∧ SlotOk K (hid (OO C ps) H) H s o p
/-- one state leads to another, by an expression -/
structure Stp (C : Ct) (H H' : Hp) : Prop where
  fr : ∀ a o, H a = some o → ¬ C.M a o → H' a = some o
  dom : ∀ a, NTd H a → NTd H' a
  inv : C.I H'
section
variable {K : PySem.W.Frag} {C : Ct} {Γ : List Slot} {σ : L2.St} {ps : List (Option Addr)} {H H' H2 : Hp}
theorem Stp.refl (h : C.I H) : Stp C H H := ⟨fun _ _ e _ => e, fun _ e => e, h⟩
theorem Stp.trans (a : Stp C H H') (b : Stp C H' H2) : Stp C H H2 := ⟨fun p o e n => b.fr p o (a.fr p o e n) n, fun p e => b.dom p (a.dom p e), b.inv⟩
theorem Stp.same (S : StOk K C Γ σ ps H) (e : Same H H') : Stp C H H' := by
  exact ⟨fun a o h _ => e a o h, fun a ⟨o, q, n⟩ => ⟨o, e a o q, n⟩, C.Ist H H' (fun a o _ h => e a o h) S.inv⟩
theorem StOk.noM (S : StOk K C Γ σ ps H) {a : Addr} {o : HO} (h : some a ∈ ps) (n : NT o) : ¬ C.M a o := fun z => S.new a h (S.od a (C.MO a o n z))
theorem StOk.noO (S : StOk K C Γ σ ps H) {a : Addr} (h : some a ∈ ps) : ¬ C.O0 a := fun z => S.new a h (S.od a z)
theorem Stp.hid (t : Stp C H H') : Same (hid (OO C ps) H) (hid (OO C ps) H') := hid_sameN fun a o n h e => ⟨h, t.fr a o e fun z => h (.inl (C.MO a o n z))⟩
theorem StOk.step (S : StOk K C Γ σ ps H) (t : Stp C H H') : StOk K C Γ σ ps H' where
  l1 := S.l1
  l2 := S.l2
  th := fun a h => t.dom a (S.th a h)
  fr := fun a o e n => t.fr a o (S.fr a o e n) n
  dom := fun a e => t.dom a (S.dom a e)
  od := S.od
  inv := t.inv
  new := S.new
  inj := S.inj
  sl := fun i s h => by
    obtain ⟨o, p, e1, e2, q⟩ := S.sl i s h
    refine ⟨o, p, e1, e2, ?_⟩
    cases s with
    | any => exact q
    | dat d =>
      obtain ⟨q1, v, q2, q3⟩ := q
      exact ⟨q1, v, q2, dp_mono t.hid q3⟩
    | raw v => exact q
    | own w =>
      obtain ⟨a, u, q1, q2, q3, q4⟩ := q
      subst q1
      exact ⟨a, u, rfl, q2, t.fr a u q3 (S.noM (List.mem_of_getElem? e2) (own_nt q4)), own_mono t.hid q4⟩
theorem StOk.fresh (S : StOk K C Γ σ ps H) {a : Addr} (h : ¬ NTd H a) : ¬ OO C ps a ∧ ¬ NTd C.H0 a := by
  have h0 : ¬ NTd C.H0 a := fun z => h (S.dom a z)
  refine ⟨fun z => ?_, h0⟩
  rcases z with z | z
  · exact h0 (S.od a z)
  · exact h (S.th a z)
theorem StOk.freshN (S : StOk K C Γ σ ps H) {a : Addr} (h : H a = none) : ¬ OO C ps a ∧ ¬ NTd C.H0 a := S.fresh (ntd_none h)
/-- the value in a slot -/
theorem StOk.get {i : Nat} {d : PyData} (S : StOk K C Γ σ ps H) (h : Γ[i]? = some (.dat d)) : ∃ v, σ[i]? = some (some v) ∧ Dp K (hid (OO C ps) H) v d := by
  obtain ⟨o, p, e1, _, _, v, rfl, q⟩ := S.sl i _ h
  exact ⟨v, e1, q⟩
theorem StOk.getR {i : Nat} {v : V} (S : StOk K C Γ σ ps H) (h : Γ[i]? = some (.raw v)) : σ[i]? = some (some v) := by
  obtain ⟨o, p, e1, _, _, rfl⟩ := S.sl i _ h
  exact e1
theorem StOk.getO {i : Nat} {w : Own} (S : StOk K C Γ σ ps H) (h : Γ[i]? = some (.own w)) : ∃ a u, σ[i]? = some (some (.ref a)) ∧ ps[i]? = some (some a) ∧ H a = some u ∧ OwnOk K (hid (OO C ps) H) w u := by
  obtain ⟨o, p, e1, e2, a, u, rfl, rfl, q1, q2⟩ := S.sl i _ h
  exact ⟨a, u, e1, e2, q1, q2⟩
end
end Fw
namespace Fw
open PySem PySem.Spec PyProof.Rows L2

def tcan (X : Cx) (e : Expr) : TE := fun σ H Q => ∀ pins s, Inv X pins σ H s → wpAny (model X.prog X.w) X.A (eval e X.env) (EP X pins σ Q) X.xe s
theorem pe_can {X : Cx} {e : Expr} : PE X e (tcan X e) := ⟨fun pins s σ H Q I h => h pins s I⟩
def ttcan (X : Cx) (e : Expr) : TT := fun σ H Q => ∀ pins s, Inv X pins σ H s → wpAny (model X.prog X.w) X.A (isTrue e X.env (eval e X.env)) (TP X pins σ Q) X.xe s
theorem pt_can {X : Cx} {e : Expr} : PT X e (ttcan X e) := ⟨fun pins s σ H Q I h => h pins s I⟩
def twcan (X : Cx) (e : Expr) : TT := fun σ H Q => ∀ (whole : Sem Value) pins s, Inv X pins σ H s → wpAny (model X.prog X.w) X.A (isTrue e X.env whole) (TP X pins σ Q) X.xe s
theorem pw_can {X : Cx} {e : Expr} : PW X e (twcan X e) := ⟨fun wh pins s σ H Q I h => h wh pins s I⟩
def tacan (X : Cx) (es : List Expr) : TA := fun σ H Q => ∀ (pos : Pos) pins s, Inv X pins σ H s → wpAny (model X.prog X.w) X.A (spliced (backTo pos (starEach es X.env))) (AP X pins σ Q) X.xe s
theorem pa_can {X : Cx} {es : List Expr} : PA X es (tacan X es) := ⟨fun pos pins s σ H Q I h => h pos pins s I⟩
def tkcan (X : Cx) (kws : List Keyword) : TA := fun σ H Q => ∀ t : TA, PK X kws t → t σ H Q

/-- what is left of a value: the owned addresses, the heap ahead, the heap behind, the value -/
abbrev Rel := List (Option Addr) → Hp → Hp → V → Prop
def GX (X : Cx) (C : Ct) (Γ : List Slot) (e : Expr) (R : Rel) : Prop :=
  ∀ σ ps H, StOk X.K C Γ σ ps H → ∀ Q : VK, (∀ v H', Stp C H H' → R ps H H' v → Q v H') → tcan X e σ H Q
def rDat (K : PySem.W.Frag) (C : Ct) (d : PyData) : Rel := fun ps _ H' v => Dp K (hid (OO C ps) H') v d
def rRd (K : PySem.W.Frag) (d : PyData) : Rel := fun _ _ H' v => Dp K H' v d
/-- some datum of which P holds -/
def rSome (K : PySem.W.Frag) (C : Ct) (P : PyData → Prop) : Rel := fun ps _ H' v => ∃ d, P d ∧ Dp K (hid (OO C ps) H') v d
/-- a list that may be read now, its items stand -/
def rSrc (K : PySem.W.Frag) (C : Ct) (ds : List PyData) : Rel := fun ps _ H' v => ∃ a vs, v = .ref a ∧ SqL K H' a vs ∧ DpAll K (hid (OO C ps) H') vs ds
/-- a new list -/
def rNew (K : PySem.W.Frag) (C : Ct) (ds : List PyData) : Rel := fun ps H H' v => ∃ a vs, v = .ref a ∧ ¬ NTd H a ∧ H' a = some (.lst vs) ∧ DpAll K (hid (fun b => OO C ps b ∨ b = a) H') vs ds
abbrev GE (X : Cx) (C : Ct) (Γ : List Slot) (e : Expr) (d : PyData) : Prop := GX X C Γ e (rDat X.K C d)
abbrev GR (X : Cx) (C : Ct) (Γ : List Slot) (e : Expr) (d : PyData) : Prop := GX X C Γ e (rRd X.K d)
abbrev GN (X : Cx) (C : Ct) (Γ : List Slot) (e : Expr) (P : PyData → Prop) : Prop := GX X C Γ e (rSome X.K C P)
abbrev GS (X : Cx) (C : Ct) (Γ : List Slot) (e : Expr) (ds : List PyData) : Prop := GX X C Γ e (rSrc X.K C ds)
abbrev GL (X : Cx) (C : Ct) (Γ : List Slot) (e : Expr) (ds : List PyData) : Prop := GX X C Γ e (rNew X.K C ds)
/-- tests -/
def GT (X : Cx) (C : Ct) (Γ : List Slot) (e : Expr) (b : Bool) : Prop :=
  ∀ σ ps H, StOk X.K C Γ σ ps H → ∀ Q : Bool → Hp → Prop, (∀ H', Stp C H H' → Q b H') → ttcan X e σ H Q
def GW (X : Cx) (C : Ct) (Γ : List Slot) (e : Expr) (b : Bool) : Prop :=
  ∀ σ ps H, StOk X.K C Γ σ ps H → ∀ Q : Bool → Hp → Prop, (∀ H', Stp C H H' → Q b H') → twcan X e σ H Q
/-- argument lists -/
abbrev RelA := List (Option Addr) → Hp → Hp → List V → Prop
def GA (X : Cx) (C : Ct) (Γ : List Slot) (es : List Expr) (R : RelA) : Prop :=
  ∀ σ ps H, StOk X.K C Γ σ ps H → ∀ Q : List V → Hp → Prop, (∀ vs H', Stp C H H' → R ps H H' vs → Q vs H') → tacan X es σ H Q
def rArgs (K : PySem.W.Frag) (C : Ct) (ds : List PyData) : RelA := fun ps _ H' vs => DpAll K (hid (OO C ps) H') vs ds
abbrev GAs (X : Cx) (C : Ct) (Γ : List Slot) (es : List Expr) (ds : List PyData) : Prop := GA X C Γ es (rArgs X.K C ds)

section
variable {X : Cx} {C : Ct} {Γ : List Slot} {e a b c : Expr} {d d1 d2 : PyData} {R Ra Rb : Rel} {pos : Pos} {ds : List PyData}
theorem gx_of {t : TE} (h : PE X e t) (k : ∀ σ ps H, StOk X.K C Γ σ ps H → ∀ Q : VK, (∀ v H', Stp C H H' → R ps H H' v → Q v H') → t σ H Q) : GX X C Γ e R :=
  fun σ ps H S Q q pins s I => h.run pins s σ H Q I (k σ ps H S Q q)
theorem gt_of {t : TT} {b : Bool} (h : PT X e t) (k : ∀ σ ps H, StOk X.K C Γ σ ps H → ∀ Q : Bool → Hp → Prop, (∀ H', Stp C H H' → Q b H') → t σ H Q) : GT X C Γ e b :=
  fun σ ps H S Q q pins s I => h.run pins s σ H Q I (k σ ps H S Q q)
theorem gw_of {t : TT} {b : Bool} (h : PW X e t) (k : ∀ σ ps H, StOk X.K C Γ σ ps H → ∀ Q : Bool → Hp → Prop, (∀ H', Stp C H H' → Q b H') → t σ H Q) : GW X C Γ e b :=
  fun σ ps H S Q q wh pins s I => h.run wh pins s σ H Q I (k σ ps H S Q q)
theorem ga_of {t : TA} {es : List Expr} {R : RelA} (h : PA X es t) (k : ∀ σ ps H, StOk X.K C Γ σ ps H → ∀ Q : List V → Hp → Prop, (∀ vs H', Stp C H H' → R ps H H' vs → Q vs H') → t σ H Q) : GA X C Γ es R :=
  fun σ ps H S Q q po pins s I => h.run po pins s σ H Q I (k σ ps H S Q q)
theorem gx_imp (h : GX X C Γ e Ra) (k : ∀ σ ps H H' v, StOk X.K C Γ σ ps H → Stp C H H' → Ra ps H H' v → Rb ps H H' v) : GX X C Γ e Rb :=
  fun σ ps H S Q q => h σ ps H S Q fun v H' t r => q v H' t (k σ ps H H' v S t r)

theorem gr_ge (h : GE X C Γ e d) : GR X C Γ e d := gx_imp h fun _ _ _ _ _ _ _ r => dp_mono hid_sub r
theorem gn_ge {P : PyData → Prop} (h : GE X C Γ e d) (p : P d) : GN X C Γ e P := gx_imp h fun _ _ _ _ _ _ _ r => ⟨d, p, r⟩
theorem gn_imp {P P' : PyData → Prop} (h : GN X C Γ e P) (p : ∀ d, P d → P' d) : GN X C Γ e P' := gx_imp h fun _ _ _ _ _ _ _ ⟨d, q, r⟩ => ⟨d, p d q, r⟩
theorem gs_ge (h : GE X C Γ e (.list ds)) : GS X C Γ e ds := gx_imp h fun _ _ _ _ _ _ _ r => by
  obtain ⟨a, vs, e1, e2, e3⟩ := dp_list r
  rcases e2 with (e2 | ⟨o, e2⟩) | e2
  · exact ⟨a, vs, e1, .inl (.inl (hid_sub _ _ e2)), e3⟩
  · exact ⟨a, vs, e1, .inl (.inr ⟨o, hid_sub _ _ e2⟩), e3⟩
  · exact ⟨a, vs, e1, .inr e2, e3⟩
theorem gr_gs (h : GS X C Γ e ds) : GR X C Γ e (.list ds) := gx_imp h fun _ _ _ _ _ _ _ ⟨a, vs, e1, e2, e3⟩ => by
  subst e1
  exact .lst e2 (dpAll_mono hid_sub e3)
theorem hid_add {C : Ct} {ps : List (Option Addr)} {H' : Hp} {a : Addr} : Same (hid (fun b => OO C ps b ∨ b = a) H') (hid (OO C ps) H') :=
  hid_same fun b o h e => ⟨fun z => h (.inl z), e⟩
theorem ge_gl (h : GL X C Γ e ds) : GE X C Γ e (.list ds) := gx_imp h fun σ ps H H' v S t ⟨a, vs, e1, e2, e3, e4⟩ => by
  subst e1
  refine Dp.lst (.inl (.inl ?_)) (dpAll_mono hid_add e4)
  exact hid_is ((S.fresh e2).1) e3 trivial
theorem gs_gl (h : GL X C Γ e ds) : GS X C Γ e ds := gs_ge (ge_gl h)
theorem ge_cast (h : GE X C Γ e d1) (q : d1 = d2) : GE X C Γ e d2 := q ▸ h
theorem gl_cast {es : List PyData} (h : GL X C Γ e ds) (q : ds = es) : GL X C Γ e es := q ▸ h
theorem gt_cast {b b' : Bool} (h : GT X C Γ e b) (q : b = b') : GT X C Γ e b' := q ▸ h
theorem gs_cast {es : List PyData} (h : GS X C Γ e ds) (q : ds = es) : GS X C Γ e es := q ▸ h

section
variable {i : Nat} {x : Str}
theorem ge_var (i : Nat) (h : Γ[i]? = some (.dat d) := by rfl) (hN : X.N[i]? = some x := by rfl) (hv : Vis X.env.scope x := by first | exact Or.inl rfl | exact Or.inr (Or.inl rfl) | exact Or.inr (Or.inr rfl))
    (hd : (x == ("__debug__" : Str)) = false := by decide) (hcd : (x == ("__classdict__" : Str)) = false := by decide) : GE X C Γ (.Name x pos) d :=
  gx_of (pe_var hN hv hd hcd) fun σ ps H S Q q => by
    obtain ⟨v, e, r⟩ := S.get h
    exact ⟨v, e, q v H (.refl S.inv) r⟩
theorem gx_raw (i : Nat) {v : V} (h : Γ[i]? = some (.raw v) := by rfl) (hN : X.N[i]? = some x := by rfl) (hv : Vis X.env.scope x := by first | exact Or.inl rfl | exact Or.inr (Or.inl rfl) | exact Or.inr (Or.inr rfl))
    (hd : (x == ("__debug__" : Str)) = false := by decide) (hcd : (x == ("__classdict__" : Str)) = false := by decide) : GX X C Γ (.Name x pos) (fun _ _ _ u => u = v) :=
  gx_of (pe_var hN hv hd hcd) fun σ ps H S Q q => ⟨v, S.getR h, q v H (.refl S.inv) rfl⟩
/-- a slot that owns a list, read -/
theorem gs_own (i : Nat) (h : Γ[i]? = some (.own (.lst ds)) := by rfl) (hN : X.N[i]? = some x := by rfl) (hv : Vis X.env.scope x := by first | exact Or.inl rfl | exact Or.inr (Or.inl rfl) | exact Or.inr (Or.inr rfl))
    (hd : (x == ("__debug__" : Str)) = false := by decide) (hcd : (x == ("__classdict__" : Str)) = false := by decide) : GS X C Γ (.Name x pos) ds :=
  gx_of (pe_var hN hv hd hcd) fun σ ps H S Q q => by
    obtain ⟨a, u, e1, e2, e3, vs, e4, e5⟩ := S.getO h
    subst e4
    exact ⟨.ref a, e1, q _ H (.refl S.inv) ⟨a, vs, rfl, .inl (.inl e3), e5⟩⟩
end
theorem ge_c {v : V} {e : Expr} (h : PE X e (tC v)) (r : ∀ H, Dp X.K H v d) : GE X C Γ e d := gx_of h fun σ ps H S Q q => q v H (.refl S.inv) (r _)
theorem ge_int {i : Int} {j} : GE X C Γ (.Constant (.int i) j pos) (.int i) := ge_c pe_int fun _ => .int i
theorem ge_bl {i : Bool} {j} : GE X C Γ (.Constant (.bool i) j pos) (.bool i) := ge_c pe_bl fun _ => .bl i
theorem ge_non {j} : GE X C Γ (.Constant .none j pos) .none := ge_c pe_non fun _ => .non
theorem ge_str {x : Str} {j} : GE X C Γ (.Constant (.str x) j pos) (.str x) := ge_c pe_str fun _ => .str x
theorem ge_glI {x : Str} {i : Int} (hm : ∃ t, X.mg x = some (.int i t)) (hg : Gl X x := by rfl) (hd : (x == ("__debug__" : Str)) = false := by decide) : GE X C Γ (.Name x pos) (.int i) := by
  obtain ⟨t, hm⟩ := hm
  exact ge_c (pe_glob hg hm (v := .int i) ⟨t, rfl⟩ hd) fun _ => .int i

/-- a two-place operation on two values -/
theorem gx_op {op : Operator} {r : R2} (ho : OpR X (binaryOp op) r) (ha : GX X C Γ a Ra) (hb : GX X C Γ b Rb)
    (k : ∀ σ ps H H1 H2 x y, StOk X.K C Γ σ ps H2 → Stp C H1 H2 → Ra ps H H1 x → Rb ps H1 H2 y → ∀ Q : VK, (∀ v H', Stp C H2 H' → R ps H H' v → Q v H') → r x y H2 Q) : GX X C Γ (.BinOp a op b pos) R :=
  gx_of (pe_op ho pe_can pe_can) fun σ ps H S Q q => ha σ ps H S _ fun x H1 t1 r1 => hb σ ps H1 (S.step t1) _ fun y H2 t2 r2 =>
    k σ ps H H1 H2 x y ((S.step t1).step t2) t2 r1 r2 Q fun v H' t3 r3 => q v H' ((t1.trans t2).trans t3) r3
theorem gx_cmp {op : CmpOp} {r : R2} (ho : OpR X (compareOp op) r) (ha : GX X C Γ a Ra) (hb : GX X C Γ b Rb) (hm : behindInMarks op b = false)
    (k : ∀ σ ps H H1 H2 x y, StOk X.K C Γ σ ps H2 → Stp C H1 H2 → Ra ps H H1 x → Rb ps H1 H2 y → ∀ Q : VK, (∀ v H', Stp C H2 H' → R ps H H' v → Q v H') → r x y H2 Q) : GX X C Γ (.Compare a [op] [b] pos) R :=
  gx_of (pe_cmpR ho pe_can pe_can hm) fun σ ps H S Q q => ha σ ps H S _ fun x H1 t1 r1 => hb σ ps H1 (S.step t1) _ fun y H2 t2 r2 =>
    k σ ps H H1 H2 x y ((S.step t1).step t2) t2 r1 r2 Q fun v H' t3 r3 => q v H' ((t1.trans t2).trans t3) r3
theorem gt_cmpX {op : CmpOp} {r : R2} {z : Bool} (ho : OpR X (compareOp op) r) (ha : GX X C Γ a Ra) (hb : GX X C Γ b Rb) (hm : behindInMarks op b = false)
    (k : ∀ σ ps H H1 H2 x y, StOk X.K C Γ σ ps H2 → Stp C H1 H2 → Ra ps H H1 x → Rb ps H1 H2 y → ∀ Q : VK, (∀ H', Stp C H2 H' → Q (.bl z) H') → r x y H2 Q) : GT X C Γ (.Compare a [op] [b] pos) z :=
  gt_of (pt_cmpR ho pe_can pe_can hm) fun σ ps H S Q q => ha σ ps H S _ fun x H1 t1 r1 => hb σ ps H1 (S.step t1) _ fun y H2 t2 r2 =>
    k σ ps H H1 H2 x y ((S.step t1).step t2) t2 r1 r2 _ fun H' t3 => ⟨z, rfl, q H' ((t1.trans t2).trans t3)⟩
theorem gx_un {op : UnaryOp} {r : V → Hp → VK → Prop} (ho : UnR X (unaryOp op) r) (ha : GX X C Γ a Ra)
    (k : ∀ σ ps H H1 x, StOk X.K C Γ σ ps H1 → Stp C H H1 → Ra ps H H1 x → ∀ Q : VK, (∀ v H', Stp C H1 H' → R ps H H' v → Q v H') → r x H1 Q) : GX X C Γ (.UnaryOp op a pos) R :=
  gx_of (pe_un ho pe_can) fun σ ps H S Q q => ha σ ps H S _ fun x H1 t1 r1 => k σ ps H H1 x (S.step t1) t1 r1 Q fun v H' t3 r3 => q v H' (t1.trans t3) r3
theorem ge_opI {op : Operator} {P : Int → Int → Prop} {g : Int → Int → V} {i j : Int} (ho : OpR X (binaryOp op) (rI P g)) (ha : GE X C Γ a (.int i)) (hb : GE X C Γ b (.int j)) (hp : P i j) (hd : ∀ H, Dp X.K H (g i j) d) : GE X C Γ (.BinOp a op b pos) d :=
  gx_op ho ha hb fun σ ps H H1 H2 x y S t r1 r2 Q q => ⟨i, j, dp_int r1, dp_int r2, hp, q _ H2 (.refl S.inv) (hd _)⟩
theorem ge_opI0 {op : Operator} {g : Int → Int → V} {i j : Int} (ho : OpR X (binaryOp op) (rI0 g)) (ha : GE X C Γ a (.int i)) (hb : GE X C Γ b (.int j)) (hd : ∀ H, Dp X.K H (g i j) d) : GE X C Γ (.BinOp a op b pos) d :=
  gx_op ho ha hb fun σ ps H H1 H2 x y S t r1 r2 Q q => ⟨i, j, dp_int r1, dp_int r2, q _ H2 (.refl S.inv) (hd _)⟩
section
variable {i j : Int}
theorem ge_add (ha : GE X C Γ a (.int i)) (hb : GE X C Γ b (.int j)) : GE X C Γ (.BinOp a .Add b pos) (.int (i + j)) := ge_opI0 op_add ha hb fun _ => .int _
theorem ge_sub (ha : GE X C Γ a (.int i)) (hb : GE X C Γ b (.int j)) : GE X C Γ (.BinOp a .Sub b pos) (.int (i - j)) := ge_opI0 op_sub ha hb fun _ => .int _
theorem ge_mul (ha : GE X C Γ a (.int i)) (hb : GE X C Γ b (.int j)) (h : CMul i j) : GE X C Γ (.BinOp a .Mult b pos) (.int (i * j)) := ge_opI op_mul ha hb h fun _ => .int _
/-- // by a positive number below 2^30 -/
theorem ge_fdiv (ha : GE X C Γ a (.int i)) (hb : GE X C Γ b (.int j)) (h : CDiv i j) : GE X C Γ (.BinOp a .FloorDiv b pos) (.int (i / j)) := ge_opI op_fdiv ha hb h fun _ => .int _
theorem ge_mod (ha : GE X C Γ a (.int i)) (hb : GE X C Γ b (.int j)) (h : 0 < j) : GE X C Γ (.BinOp a .Mod b pos) (.int (i % j)) := ge_opI op_mod ha hb h fun _ => .int _
theorem ge_pow (ha : GE X C Γ a (.int i)) (hb : GE X C Γ b (.int j)) (h : CPow i j) : GE X C Γ (.BinOp a .Pow b pos) (.int (i ^ j.toNat)) := ge_opI op_pow ha hb h fun _ => .int _
theorem ge_shl (ha : GE X C Γ a (.int i)) (hb : GE X C Γ b (.int j)) (h : CPow i j) : GE X C Γ (.BinOp a .LShift b pos) (.int (i * 2 ^ j.toNat)) := ge_opI op_shl ha hb h fun _ => .int _
theorem ge_shr (ha : GE X C Γ a (.int i)) (hb : GE X C Γ b (.int j)) (h : 0 ≤ j) : GE X C Γ (.BinOp a .RShift b pos) (.int (i / 2 ^ j.toNat)) := ge_opI op_shr ha hb h fun _ => .int _
theorem ge_band (ha : GE X C Γ a (.int i)) (hb : GE X C Γ b (.int j)) : GE X C Γ (.BinOp a .BitAnd b pos) (.int (Builtin.bitAnd i j)) := ge_opI0 op_and ha hb fun _ => .int _
theorem ge_bor (ha : GE X C Γ a (.int i)) (hb : GE X C Γ b (.int j)) : GE X C Γ (.BinOp a .BitOr b pos) (.int (Builtin.bitOr i j)) := ge_opI0 op_or ha hb fun _ => .int _
theorem ge_neg (ha : GE X C Γ a (.int i)) : GE X C Γ (.UnaryOp .USub a pos) (.int (-i)) := gx_un un_neg ha fun σ ps H H1 x S t r Q q => ⟨i, dp_int r, q _ H1 (.refl S.inv) (.int _)⟩
theorem ge_inv (ha : GE X C Γ a (.int i)) : GE X C Γ (.UnaryOp .Invert a pos) (.int (Builtin.bitNot i)) := gx_un un_inv ha fun σ ps H H1 x S t r Q q => ⟨i, dp_int r, q _ H1 (.refl S.inv) (.int _)⟩
theorem ge_cmpI {op : CmpOp} {g : Int → Int → Bool} (ho : OpR X (compareOp op) (rI0 fun i j => .bl (g i j))) (hm : behindInMarks op b = false) (ha : GE X C Γ a (.int i)) (hb : GE X C Γ b (.int j)) : GE X C Γ (.Compare a [op] [b] pos) (.bool (g i j)) :=
  gx_cmp ho ha hb hm fun σ ps H H1 H2 x y S t r1 r2 Q q => ⟨i, j, dp_int r1, dp_int r2, q _ H2 (.refl S.inv) (.bl _)⟩
theorem gt_cmpI {op : CmpOp} {g : Int → Int → Bool} (ho : OpR X (compareOp op) (rI0 fun i j => .bl (g i j))) (hm : behindInMarks op b = false) (ha : GE X C Γ a (.int i)) (hb : GE X C Γ b (.int j)) : GT X C Γ (.Compare a [op] [b] pos) (g i j) :=
  gt_cmpX ho ha hb hm fun σ ps H H1 H2 x y S t r1 r2 Q q => ⟨i, j, dp_int r1, dp_int r2, q H2 (.refl S.inv)⟩
theorem ge_lt (ha : GE X C Γ a (.int i)) (hb : GE X C Γ b (.int j)) : GE X C Γ (.Compare a [.Lt] [b] pos) (.bool (decide (i < j))) := ge_cmpI op_lt (nomark _) ha hb
theorem ge_le (ha : GE X C Γ a (.int i)) (hb : GE X C Γ b (.int j)) : GE X C Γ (.Compare a [.LtE] [b] pos) (.bool (decide (i ≤ j))) := ge_cmpI op_le (nomark _) ha hb
theorem ge_gt (ha : GE X C Γ a (.int i)) (hb : GE X C Γ b (.int j)) : GE X C Γ (.Compare a [.Gt] [b] pos) (.bool (decide (j < i))) := ge_cmpI op_gt (nomark _) ha hb
theorem ge_ge (ha : GE X C Γ a (.int i)) (hb : GE X C Γ b (.int j)) : GE X C Γ (.Compare a [.GtE] [b] pos) (.bool (decide (j ≤ i))) := ge_cmpI op_ge (nomark _) ha hb
theorem gt_lt (ha : GE X C Γ a (.int i)) (hb : GE X C Γ b (.int j)) : GT X C Γ (.Compare a [.Lt] [b] pos) (decide (i < j)) := gt_cmpI op_lt (nomark _) ha hb
theorem gt_le (ha : GE X C Γ a (.int i)) (hb : GE X C Γ b (.int j)) : GT X C Γ (.Compare a [.LtE] [b] pos) (decide (i ≤ j)) := gt_cmpI op_le (nomark _) ha hb
theorem gt_gt (ha : GE X C Γ a (.int i)) (hb : GE X C Γ b (.int j)) : GT X C Γ (.Compare a [.Gt] [b] pos) (decide (j < i)) := gt_cmpI op_gt (nomark _) ha hb
theorem gt_ge (ha : GE X C Γ a (.int i)) (hb : GE X C Γ b (.int j)) : GT X C Γ (.Compare a [.GtE] [b] pos) (decide (j ≤ i)) := gt_cmpI op_ge (nomark _) ha hb
end
theorem dec_vi {i j : Int} : decide (V.int i = V.int j) = decide (i = j) := by
  by_cases h : i = j
  · subst h; simp
  · simp [h]
theorem dec_vb {i j : Bool} : decide (V.bl i = V.bl j) = decide (i = j) := by
  by_cases h : i = j
  · subst h; simp
  · simp [h]
theorem dec_vs {i j : Str} : decide (V.str i = V.str j) = decide (i = j) := by
  by_cases h : i = j
  · subst h; simp
  · simp [h]
section
variable {i j : Int} {p q : Bool} {x y : Str}
theorem ge_eqI (ha : GE X C Γ a (.int i)) (hb : GE X C Γ b (.int j)) : GE X C Γ (.Compare a [.Eq] [b] pos) (.bool (decide (i = j))) :=
  gx_cmp op_eq ha hb (nomark _) fun σ ps H H1 H2 x y S t r1 r2 Q q => by
    rw [dp_int r1, dp_int r2]
    exact ⟨rfl, by rw [dec_vi]; exact q _ H2 (.refl S.inv) (.bl _)⟩
theorem ge_neI (ha : GE X C Γ a (.int i)) (hb : GE X C Γ b (.int j)) : GE X C Γ (.Compare a [.NotEq] [b] pos) (.bool (!decide (i = j))) :=
  gx_cmp op_ne ha hb (nomark _) fun σ ps H H1 H2 x y S t r1 r2 Q q => by
    rw [dp_int r1, dp_int r2]
    exact ⟨rfl, by rw [dec_vi]; exact q _ H2 (.refl S.inv) (.bl _)⟩
theorem gt_eqI (ha : GE X C Γ a (.int i)) (hb : GE X C Γ b (.int j)) : GT X C Γ (.Compare a [.Eq] [b] pos) (decide (i = j)) :=
  gt_cmpX op_eq ha hb (nomark _) fun σ ps H H1 H2 x y S t r1 r2 Q q => by
    rw [dp_int r1, dp_int r2]
    exact ⟨rfl, by rw [dec_vi]; exact q H2 (.refl S.inv)⟩
theorem gt_neI (ha : GE X C Γ a (.int i)) (hb : GE X C Γ b (.int j)) : GT X C Γ (.Compare a [.NotEq] [b] pos) (!decide (i = j)) :=
  gt_cmpX op_ne ha hb (nomark _) fun σ ps H H1 H2 x y S t r1 r2 Q q => by
    rw [dp_int r1, dp_int r2]
    exact ⟨rfl, by rw [dec_vi]; exact q H2 (.refl S.inv)⟩
theorem ge_eqB (ha : GE X C Γ a (.bool p)) (hb : GE X C Γ b (.bool q)) : GE X C Γ (.Compare a [.Eq] [b] pos) (.bool (decide (p = q))) :=
  gx_cmp op_eq ha hb (nomark _) fun σ ps H H1 H2 x y S t r1 r2 Q q => by
    rw [dp_bool r1, dp_bool r2]
    exact ⟨rfl, by rw [dec_vb]; exact q _ H2 (.refl S.inv) (.bl _)⟩
theorem ge_neB (ha : GE X C Γ a (.bool p)) (hb : GE X C Γ b (.bool q)) : GE X C Γ (.Compare a [.NotEq] [b] pos) (.bool (!decide (p = q))) :=
  gx_cmp op_ne ha hb (nomark _) fun σ ps H H1 H2 x y S t r1 r2 Q q => by
    rw [dp_bool r1, dp_bool r2]
    exact ⟨rfl, by rw [dec_vb]; exact q _ H2 (.refl S.inv) (.bl _)⟩
theorem gt_eqB (ha : GE X C Γ a (.bool p)) (hb : GE X C Γ b (.bool q)) : GT X C Γ (.Compare a [.Eq] [b] pos) (decide (p = q)) :=
  gt_cmpX op_eq ha hb (nomark _) fun σ ps H H1 H2 x y S t r1 r2 Q q => by
    rw [dp_bool r1, dp_bool r2]
    exact ⟨rfl, by rw [dec_vb]; exact q H2 (.refl S.inv)⟩
theorem gt_neB (ha : GE X C Γ a (.bool p)) (hb : GE X C Γ b (.bool q)) : GT X C Γ (.Compare a [.NotEq] [b] pos) (!decide (p = q)) :=
  gt_cmpX op_ne ha hb (nomark _) fun σ ps H H1 H2 x y S t r1 r2 Q q => by
    rw [dp_bool r1, dp_bool r2]
    exact ⟨rfl, by rw [dec_vb]; exact q H2 (.refl S.inv)⟩
theorem gt_neS (ha : GE X C Γ a (.str x)) (hb : GE X C Γ b (.str y)) : GT X C Γ (.Compare a [.NotEq] [b] pos) (!decide (x = y)) :=
  gt_cmpX op_ne ha hb (nomark _) fun σ ps H H1 H2 x y S t r1 r2 Q q => by
    rw [dp_str r1, dp_str r2]
    exact ⟨rfl, by rw [dec_vs]; exact q H2 (.refl S.inv)⟩
end
def isNone : PyData → Bool
  | .none => true
  | _ => false
theorem isNone_dp {K : PySem.W.Frag} {H : Hp} {v : V} {d : PyData} (h : Dp K H v d) : decide (v = .non) = isNone d := by
  cases h <;> simp [isNone]
theorem ge_isN {j p'} (ha : GR X C Γ a d) : GE X C Γ (.Compare a [.Is] [.Constant .none j p'] pos) (.bool (isNone d)) :=
  gx_cmp op_isN ha (ge_non (C := C) (Γ := Γ)) (nomark _) fun σ ps H H1 H2 x y S t r1 r2 Q q => ⟨dp_none r2, by rw [isNone_dp r1]; exact q _ H2 (.refl S.inv) (.bl _)⟩
theorem ge_notN {j p'} (ha : GR X C Γ a d) : GE X C Γ (.Compare a [.IsNot] [.Constant .none j p'] pos) (.bool (!isNone d)) :=
  gx_cmp op_notN ha (ge_non (C := C) (Γ := Γ)) (nomark _) fun σ ps H H1 H2 x y S t r1 r2 Q q => ⟨dp_none r2, by rw [isNone_dp r1]; exact q _ H2 (.refl S.inv) (.bl _)⟩
theorem gt_isN {j p'} (ha : GR X C Γ a d) : GT X C Γ (.Compare a [.Is] [.Constant .none j p'] pos) (isNone d) :=
  gt_cmpX op_isN ha (ge_non (C := C) (Γ := Γ)) (nomark _) fun σ ps H H1 H2 x y S t r1 r2 Q q => ⟨dp_none r2, by rw [isNone_dp r1]; exact q H2 (.refl S.inv)⟩
theorem gt_notN {j p'} (ha : GR X C Γ a d) : GT X C Γ (.Compare a [.IsNot] [.Constant .none j p'] pos) (!isNone d) :=
  gt_cmpX op_notN ha (ge_non (C := C) (Γ := Γ)) (nomark _) fun σ ps H H1 H2 x y S t r1 r2 Q q => ⟨dp_none r2, by rw [isNone_dp r1]; exact q H2 (.refl S.inv)⟩
section
variable {i j k : Int} {op op' : CmpOp} {g g' : Int → Int → Bool}
theorem ge_chainI (ho : OpR X (compareOp op) (rI0 fun i j => .bl (g i j))) (ho' : OpR X (compareOp op') (rI0 fun i j => .bl (g' i j))) (hm : lastMarks [op, op'] [b, c] = false := by rfl)
    (ha : GE X C Γ a (.int i)) (hb : GE X C Γ b (.int j)) (hc : GE X C Γ c (.int k)) : GE X C Γ (.Compare a [op, op'] [b, c] pos) (.bool (g i j && g' j k)) :=
  gx_of (pe_chain ho ho' pe_can pe_can pe_can hm) fun σ ps H S Q q => ha σ ps H S _ fun x H1 t1 r1 => hb σ ps H1 (S.step t1) _ fun y H2 t2 r2 =>
    ⟨i, j, dp_int r1, dp_int r2, g i j, rfl, by
      cases z : g i j with
      | true =>
        show tcan X c σ H2 _
        refine hc σ ps H2 ((S.step t1).step t2) _ fun w H3 t3 r3 => ⟨j, k, dp_int r2, dp_int r3, ?_⟩
        refine q _ H3 ((t1.trans t2).trans t3) ?_
        rw [z, Bool.true_and]
        exact .bl _
      | false =>
        show Q (.bl false) H2
        refine q _ H2 (t1.trans t2) ?_
        rw [z, Bool.false_and]
        exact .bl _⟩
theorem gt_chainI (ho : OpR X (compareOp op) (rI0 fun i j => .bl (g i j))) (ho' : OpR X (compareOp op') (rI0 fun i j => .bl (g' i j))) (hm : lastMarks [op, op'] [b, c] = false := by rfl)
    (ha : GE X C Γ a (.int i)) (hb : GE X C Γ b (.int j)) (hc : GE X C Γ c (.int k)) : GT X C Γ (.Compare a [op, op'] [b, c] pos) (g i j && g' j k) :=
  gt_of (pt_chain ho ho' pe_can pe_can pe_can hm) fun σ ps H S Q q => ha σ ps H S _ fun x H1 t1 r1 => hb σ ps H1 (S.step t1) _ fun y H2 t2 r2 =>
    ⟨i, j, dp_int r1, dp_int r2, g i j, rfl, by
      cases z : g i j with
      | true =>
        show tcan X c σ H2 _
        refine hc σ ps H2 ((S.step t1).step t2) _ fun w H3 t3 r3 => ⟨j, k, dp_int r2, dp_int r3, _, rfl, ?_⟩
        have e := q H3 ((t1.trans t2).trans t3)
        rw [z, Bool.true_and] at e
        exact e
      | false =>
        have e := q H2 (t1.trans t2)
        rw [z, Bool.false_and] at e
        exact ⟨false, rfl, e⟩⟩
end
section
variable {p q : Bool} {rest : List Expr}
theorem ge_one {op} (h : GX X C Γ a R) : GX X C Γ (.BoolOp op [a] pos) R := gx_of (pe_one pe_can) h
theorem ge_and (ha : GE X C Γ a (.bool p)) (hb : p = true → GE X C Γ (.BoolOp .And (b :: rest) pos) (.bool q)) : GE X C Γ (.BoolOp .And (a :: b :: rest) pos) (.bool (p && q)) :=
  gx_of (pe_and pe_can pe_can) fun σ ps H S Q k => ha σ ps H S _ fun x H1 t1 r1 => ⟨p, dp_bool r1, by
    cases p with
    | true =>
      show tcan X _ σ H1 Q
      exact hb rfl σ ps H1 (S.step t1) Q fun v H' t r => k v H' (t1.trans t) r
    | false => exact k _ H1 t1 (.bl _)⟩
theorem ge_or (ha : GE X C Γ a (.bool p)) (hb : p = false → GE X C Γ (.BoolOp .Or (b :: rest) pos) (.bool q)) : GE X C Γ (.BoolOp .Or (a :: b :: rest) pos) (.bool (p || q)) :=
  gx_of (pe_or pe_can pe_can) fun σ ps H S Q k => ha σ ps H S _ fun x H1 t1 r1 => ⟨p, dp_bool r1, by
    cases p with
    | false =>
      show tcan X _ σ H1 Q
      exact hb rfl σ ps H1 (S.step t1) Q fun v H' t r => k v H' (t1.trans t) r
    | true => exact k _ H1 t1 (.bl _)⟩
theorem ge_not (ha : GE X C Γ a (.bool p)) : GE X C Γ (.UnaryOp .Not a pos) (.bool (!p)) :=
  gx_of (pe_not pe_can) fun σ ps H S Q k => ha σ ps H S _ fun x H1 t1 r1 => ⟨p, dp_bool r1, k _ H1 t1 (.bl _)⟩
theorem gw_and1 (ha : GT X C Γ a p) : GW X C Γ (.BoolOp .And [a] pos) p := gw_of (pw_and1 pt_can) ha
theorem gw_or1 (ha : GT X C Γ a p) : GW X C Γ (.BoolOp .Or [a] pos) p := gw_of (pw_or1 pt_can) ha
theorem gw_and (ha : GT X C Γ a p) (hb : p = true → GW X C Γ (.BoolOp .And (b :: rest) pos) q) : GW X C Γ (.BoolOp .And (a :: b :: rest) pos) (p && q) :=
  gw_of (pw_and pt_can pw_can) fun σ ps H S Q k => ha σ ps H S _ fun H1 t1 => by
    cases p with
    | true =>
      show twcan X _ σ H1 Q
      exact hb rfl σ ps H1 (S.step t1) Q fun H' t => k H' (t1.trans t)
    | false => exact k H1 t1
theorem gw_or (ha : GT X C Γ a p) (hb : p = false → GW X C Γ (.BoolOp .Or (b :: rest) pos) q) : GW X C Γ (.BoolOp .Or (a :: b :: rest) pos) (p || q) :=
  gw_of (pw_or pt_can pw_can) fun σ ps H S Q k => ha σ ps H S _ fun H1 t1 => by
    cases p with
    | false =>
      show twcan X _ σ H1 Q
      exact hb rfl σ ps H1 (S.step t1) Q fun H' t => k H' (t1.trans t)
    | true => exact k H1 t1
theorem gt_w (h : GW X C Γ e p) : GT X C Γ e p := gt_of pw_can.pt h
theorem gt_not (ha : GT X C Γ a p) : GT X C Γ (.UnaryOp .Not a pos) (!p) := gt_of (pt_not pt_can) fun σ ps H S Q k => ha σ ps H S _ fun H1 t1 => k H1 t1
/-- a value that is a bool, as a test -/
theorem gt_val (ha : GE X C Γ a (.bool p)) (he : ∀ whole, isTrue a X.env whole = (do let v ← whole; standAt a.pos; holding [v] (truthy v)) := by intro _; rfl) : GT X C Γ a p :=
  gt_of (pt_val pe_can he) fun σ ps H S Q k => ha σ ps H S _ fun x H1 t1 r1 => ⟨p, dp_bool r1, k H1 t1⟩
theorem gx_ite (hR : ∀ ps H H1 H' v, Stp C H H1 → R ps H1 H' v → R ps H H' v) (hc : GT X C Γ c p) (h1 : p = true → GX X C Γ a R) (h2 : p = false → GX X C Γ b R) : GX X C Γ (.IfExp c a b pos) R :=
  gx_of (pe_ifExp pt_can pe_can pe_can) fun σ ps H S Q k => hc σ ps H S _ fun H1 t1 => by
    cases p with
    | true =>
      show tcan X a σ H1 Q
      exact h1 rfl σ ps H1 (S.step t1) Q fun v H' t r => k v H' (t1.trans t) (hR _ _ _ _ _ t1 r)
    | false =>
      show tcan X b σ H1 Q
      exact h2 rfl σ ps H1 (S.step t1) Q fun v H' t r => k v H' (t1.trans t) (hR _ _ _ _ _ t1 r)
theorem ge_ite (hc : GT X C Γ c p) (h1 : p = true → GE X C Γ a d1) (h2 : p = false → GE X C Γ b d2) : GE X C Γ (.IfExp c a b pos) (if p = true then d1 else d2) :=
  gx_ite (fun _ _ _ _ _ _ r => r) hc (fun h => by rw [if_pos h]; exact h1 h) (fun h => by rw [h, if_neg Bool.false_ne_true]; exact h2 h)
theorem ge_iteI {i j : Int} (hc : GT X C Γ c p) (h1 : p = true → GE X C Γ a (.int i)) (h2 : p = false → GE X C Γ b (.int j)) : GE X C Γ (.IfExp c a b pos) (.int (if p = true then i else j)) :=
  gx_ite (fun _ _ _ _ _ _ r => r) hc (fun h => by rw [if_pos h]; exact h1 h) (fun h => by rw [h, if_neg Bool.false_ne_true]; exact h2 h)
theorem ge_iteP (hc : GT X C Γ c p) (h1 : p = true → GE X C Γ a d) (h2 : p = false → GE X C Γ b d) : GE X C Γ (.IfExp c a b pos) d :=
  gx_ite (fun _ _ _ _ _ _ r => r) hc h1 h2
theorem gl_iteP (hc : GT X C Γ c p) (h1 : p = true → GL X C Γ a ds) (h2 : p = false → GL X C Γ b ds) : GL X C Γ (.IfExp c a b pos) ds :=
  gx_ite (fun ps H H1 H' v t ⟨q, vs, e1, e2, e3, e4⟩ => ⟨q, vs, e1, fun z => e2 (t.dom q z), e3, e4⟩) hc h1 h2
end
end
end Fw
namespace Fw
open PySem PySem.Spec PyProof.Rows L2

section
variable {K : PySem.W.Frag} {C : Ct} {Γ : List Slot} {σ : L2.St} {ps : List (Option Addr)} {H H' : Hp}
theorem same_new {p : Addr} {o : HO} (h : H p = none) : Same H (upd H p o) := fun a u e => by
  rw [upd_ne (ne_of_none e h)]
  exact e
theorem Stp.new {p : Addr} {o : HO} (S : StOk K C Γ σ ps H) (h : H p = none) : Stp C H (upd H p o) := .same S (same_new h)
theorem hid_new {p : Addr} {o : HO} {O : Addr → Prop} (h : H p = none) : Same (hid O H) (hid O (upd H p o)) := hid_same fun a u n e => ⟨n, same_new h a u e⟩
theorem hid_new1 {p : Addr} {o : HO} {O : Addr → Prop} (h : H p = none) : Same (hid O H) (hid (fun b => O b ∨ b = p) (upd H p o)) :=
  hid_same fun a u n e => by
    refine ⟨fun z => ?_, same_new h a u e⟩
    rcases z with z | z
    · exact n z
    · rw [z, h] at e
      cases e
end
theorem line_le {n : Nat} (h : n ≤ 1000000) : n ≤ sizeLine := by rw [sizeLine_eq]; omega
theorem line_lt {n : Nat} (h : n ≤ 1000000) : n < sizeLine := by rw [sizeLine_eq]; omega

section
variable {X : Cx} {C : Ct} {Γ : List Slot} {e a b c : Expr} {es : List Expr} {d d1 d2 : PyData} {R Ra Rb : Rel} {pos p : Pos} {ds ds' : List PyData} {x : Str}
theorem ga_nil : GAs X C Γ [] [] := ga_of pa_nil fun σ ps H S Q q => q [] H (.refl S.inv) .nil
theorem ga_cons (ha : GE X C Γ e d) (hr : GAs X C Γ es ds) (hs : starEach (e :: es) X.env = (false, eval e X.env) :: starEach es X.env := by rfl) : GAs X C Γ (e :: es) (d :: ds) :=
  ga_of (pa_cons pe_can pa_can hs) fun σ ps H S Q q => ha σ ps H S _ fun v H1 t1 r1 => hr σ ps H1 (S.step t1) _ fun vs H2 t2 r2 =>
    q (v :: vs) H2 (t1.trans t2) (DpAll.cons (dp_mono t2.hid r1) r2)
theorem ge_tupA (h : GAs X C Γ es ds) (hl : Nat.ble ds.length 1000000 = true) {k} : GE X C Γ (.Tuple es k pos) (.tuple ds) :=
  gx_of (pe_tup pa_can) fun σ ps H S Q q => h σ ps H S _ fun vs H1 t1 r1 => ⟨by rw [dpAll_len r1]; exact line_le (Nat.le_of_ble_eq_true hl), fun p hp => by
    have S1 := S.step t1
    refine q _ _ (t1.trans (.new S1 hp)) (Dp.tup (.inl (.inl ?_)) (dpAll_mono (hid_new hp) r1))
    exact hid_is ((S1.freshN hp).1) upd_same trivial⟩
theorem ge_tup (h : GAs X C Γ es ds) {k} (hl : Nat.ble ds.length 1000000 = true := by rfl) : GE X C Γ (.Tuple es k pos) (.tuple ds) := ge_tupA h hl
theorem gl_lst (h : GAs X C Γ es ds) (hl : Nat.ble ds.length 1000000 = true := by rfl) : GL X C Γ (.List es pos) ds :=
  gx_of (pe_lst pa_can) fun σ ps H S Q q => h σ ps H S _ fun vs H1 t1 r1 => ⟨by rw [dpAll_len r1]; exact line_le (Nat.le_of_ble_eq_true hl), fun p hp => by
    have S1 := S.step t1
    refine q _ _ (t1.trans (.new S1 hp)) ⟨p, vs, rfl, ?_, upd_same, dpAll_mono (hid_new1 hp) r1⟩
    exact fun z => ntd_none hp (t1.dom p z)⟩
theorem gx_B1 {id : String} {r : List V → Hp → VK → Prop} (hc : CallR X (.builtin id) r) (hg : Gl X x) (hm : X.mg x = none) (hv : bootBuiltins x = some (.builtin id)) (hn : x ≠ "__name__") (hdb : (x == ("__debug__" : Str)) = false)
    (ha : GX X C Γ e Ra) (k : ∀ σ ps H H1 v, StOk X.K C Γ σ ps H1 → Stp C H H1 → Ra ps H H1 v → ∀ Q : VK, (∀ v' H', Stp C H1 H' → R ps H H' v' → Q v' H') → r [v] H1 Q)
    (hs : starEach [e] X.env = (false, eval e X.env) :: starEach [] X.env) (hpl : (backTo pos (starEach [] X.env)).any (·.1) = false) : GX X C Γ (.Call (.Name x p) [e] [] pos) R :=
  gx_of (pe_callB hc hg hm hv (pa_cons pe_can pa_nil hs) hn hdb hs hpl) fun σ ps H S Q q => ha σ ps H S _ fun v H1 t1 r1 => k σ ps H H1 v (S.step t1) t1 r1 Q fun v' H' t2 r2 => q v' H' (t1.trans t2) r2
theorem gx_T1 {id : String} {r : List V → Hp → VK → Prop} (hc : CallR X (.type id) r) (hg : Gl X x) (hm : X.mg x = none) (hv : bootBuiltins x = some (.type id)) (hn : x ≠ "__name__") (hdb : (x == ("__debug__" : Str)) = false)
    (ha : GX X C Γ e Ra) (k : ∀ σ ps H H1 v, StOk X.K C Γ σ ps H1 → Stp C H H1 → Ra ps H H1 v → ∀ Q : VK, (∀ v' H', Stp C H1 H' → R ps H H' v' → Q v' H') → r [v] H1 Q)
    (hs : starEach [e] X.env = (false, eval e X.env) :: starEach [] X.env) (hpl : (backTo pos (starEach [] X.env)).any (·.1) = false) : GX X C Γ (.Call (.Name x p) [e] [] pos) R :=
  gx_of (pe_callTy hc hg hm hv (pa_cons pe_can pa_nil hs) hn hdb hs hpl) fun σ ps H S Q q => ha σ ps H S _ fun v H1 t1 r1 => k σ ps H H1 v (S.step t1) t1 r1 Q fun v' H' t2 r2 => q v' H' (t1.trans t2) r2
theorem seqT_hid {K : PySem.W.Frag} {O : Addr → Prop} {H : Hp} {a : Addr} {vs : List V} (h : SqT K (hid O H) a vs) : SqT K H a vs := seqT_mono hid_sub h
theorem boot_ty_len : bootBuiltins "len" = some (.builtin "len") := by decide +kernel
theorem ge_lenT (hm : X.mg "len" = none) (ha : GR X C Γ e (.tuple ds)) (hg : Gl X "len" := by rfl) (hs : starEach [e] X.env = (false, eval e X.env) :: starEach [] X.env := by rfl) (hpl : (backTo pos (starEach [] X.env)).any (·.1) = false := by rfl) :
    GE X C Γ (.Call (.Name "len" p) [e] [] pos) (.int ds.length) :=
  gx_B1 call_len hg hm boot_ty_len (by decide) (by decide) ha (fun σ ps H H1 v S t r Q q => by
    obtain ⟨a, vs, rfl, h1, h2⟩ := dp_tuple r
    exact ⟨_, ds.length, rfl, .inr ⟨vs, h1, (dpAll_len h2).symm⟩, q _ H1 (.refl S.inv) (.int _)⟩) hs hpl
theorem ge_lenL (hm : X.mg "len" = none) (ha : GS X C Γ e ds) (hg : Gl X "len" := by rfl) (hs : starEach [e] X.env = (false, eval e X.env) :: starEach [] X.env := by rfl) (hpl : (backTo pos (starEach [] X.env)).any (·.1) = false := by rfl) :
    GE X C Γ (.Call (.Name "len" p) [e] [] pos) (.int ds.length) :=
  gx_B1 call_len hg hm boot_ty_len (by decide) (by decide) ha (fun σ ps H H1 v S t r Q q => by
    obtain ⟨a, vs, rfl, h1, h2⟩ := r
    exact ⟨_, ds.length, rfl, .inl ⟨vs, h1, (dpAll_len h2).symm⟩, q _ H1 (.refl S.inv) (.int _)⟩) hs hpl
theorem boot_ty_int : bootBuiltins "int" = some (.type "int") := by decide +kernel
theorem ge_int1 {i : Int} (hm : X.mg "int" = none) (ha : GE X C Γ e (.int i)) (hg : Gl X "int" := by rfl) (hs : starEach [e] X.env = (false, eval e X.env) :: starEach [] X.env := by rfl) (hpl : (backTo pos (starEach [] X.env)).any (·.1) = false := by rfl) :
    GE X C Γ (.Call (.Name "int" p) [e] [] pos) (.int i) :=
  gx_T1 call_int1 hg hm boot_ty_int (by decide) (by decide) ha (fun σ ps H H1 v S t r Q q => by
    rw [dp_int r]
    exact .inl ⟨i, rfl, q _ H1 (.refl S.inv) (.int _)⟩) hs hpl
theorem boot_ty_abs : bootBuiltins "abs" = some (.builtin "abs") := by decide +kernel
theorem ge_abs {i : Int} (hm : X.mg "abs" = none) (ha : GE X C Γ e (.int i)) (hg : Gl X "abs" := by rfl) (hs : starEach [e] X.env = (false, eval e X.env) :: starEach [] X.env := by rfl) (hpl : (backTo pos (starEach [] X.env)).any (·.1) = false := by rfl) :
    GE X C Γ (.Call (.Name "abs" p) [e] [] pos) (.int (if i < 0 then -i else i)) :=
  gx_B1 call_abs hg hm boot_ty_abs (by decide) (by decide) ha (fun σ ps H H1 v S t r Q q => by
    rw [dp_int r]
    exact ⟨i, rfl, q _ H1 (.refl S.inv) (.int _)⟩) hs hpl
theorem src_ints {K : PySem.W.Frag} {C : Ct} {ps : List (Option Addr)} {H H' : Hp} {v : V} {ns : List Int} (r : rSrc K C (ns.map PyData.int) ps H H' v) : ∃ a, v = .ref a ∧ SqL K H' a (ns.map V.int) := by
  obtain ⟨a, vs, rfl, h1, h2⟩ := r
  rw [dpAll_ints h2] at h1
  exact ⟨a, rfl, h1⟩
theorem src_bools {K : PySem.W.Frag} {C : Ct} {ps : List (Option Addr)} {H H' : Hp} {v : V} {ns : List Bool} (r : rSrc K C (ns.map PyData.bool) ps H H' v) : ∃ a, v = .ref a ∧ SqL K H' a (ns.map V.bl) := by
  obtain ⟨a, vs, rfl, h1, h2⟩ := r
  rw [dpAll_bools h2] at h1
  exact ⟨a, rfl, h1⟩
theorem boot_ty_sum : bootBuiltins "sum" = some (.builtin "sum") := by decide +kernel
theorem ge_sum {ns : List Int} (hm : X.mg "sum" = none) (hk : X.calm = true) (ha : GS X C Γ e (ns.map .int)) (hg : Gl X "sum" := by rfl) (hs : starEach [e] X.env = (false, eval e X.env) :: starEach [] X.env := by rfl) (hpl : (backTo pos (starEach [] X.env)).any (·.1) = false := by rfl) :
    GE X C Γ (.Call (.Name "sum" p) [e] [] pos) (.int ns.sum) :=
  gx_B1 (cr_sum hk) hg hm boot_ty_sum (by decide) (by decide) ha (fun σ ps H H1 v S t r Q q => by
    obtain ⟨a, rfl, h1⟩ := src_ints r
    exact ⟨a, ns, rfl, h1, q _ H1 (.refl S.inv) (.int _)⟩) hs hpl
theorem boot_ty_all : bootBuiltins "all" = some (.builtin "all") := by decide +kernel
theorem boot_ty_any : bootBuiltins "any" = some (.builtin "any") := by decide +kernel
theorem ge_all {ns : List Bool} (hm : X.mg "all" = none) (hk : X.calm = true) (ha : GS X C Γ e (ns.map .bool)) (hg : Gl X "all" := by rfl) (hs : starEach [e] X.env = (false, eval e X.env) :: starEach [] X.env := by rfl) (hpl : (backTo pos (starEach [] X.env)).any (·.1) = false := by rfl) :
    GE X C Γ (.Call (.Name "all" p) [e] [] pos) (.bool (ns.all id)) :=
  gx_B1 (cr_all hk) hg hm boot_ty_all (by decide) (by decide) ha (fun σ ps H H1 v S t r Q q => by
    obtain ⟨a, rfl, h1⟩ := src_bools r
    exact ⟨a, ns, rfl, h1, q _ H1 (.refl S.inv) (.bl _)⟩) hs hpl
theorem ge_any {ns : List Bool} (hm : X.mg "any" = none) (hk : X.calm = true) (ha : GS X C Γ e (ns.map .bool)) (hg : Gl X "any" := by rfl) (hs : starEach [e] X.env = (false, eval e X.env) :: starEach [] X.env := by rfl) (hpl : (backTo pos (starEach [] X.env)).any (·.1) = false := by rfl) :
    GE X C Γ (.Call (.Name "any" p) [e] [] pos) (.bool (ns.any id)) :=
  gx_B1 (cr_any hk) hg hm boot_ty_any (by decide) (by decide) ha (fun σ ps H H1 v S t r Q q => by
    obtain ⟨a, rfl, h1⟩ := src_bools r
    exact ⟨a, ns, rfl, h1, q _ H1 (.refl S.inv) (.bl _)⟩) hs hpl
/-- the least | greatest of a list of ints -/
def leastI : List Int → Int
  | [] => 0
  | x :: r => r.foldl min x
def mostI : List Int → Int
  | [] => 0
  | x :: r => r.foldl max x
theorem foldl_min_le : ∀ (l : List Int) (x : Int), l.foldl min x ≤ x ∧ (∀ y ∈ l, l.foldl min x ≤ y) ∧ (l.foldl min x = x ∨ l.foldl min x ∈ l)
  | [], x => ⟨Int.le_refl _, fun _ h => by simp at h, .inl rfl⟩
  | y :: l, x => by
    obtain ⟨h1, h2, h3⟩ := foldl_min_le l (min x y)
    rw [List.foldl_cons]
    refine ⟨by omega, fun z hz => ?_, ?_⟩
    · rcases List.mem_cons.mp hz with e | hz
      · rw [e]; omega
      · exact h2 z hz
    · rcases h3 with e | h3
      · by_cases q : x ≤ y
        · left; rw [e]; omega
        · right; rw [e]
          have : min x y = y := by omega
          rw [this]
          exact List.mem_cons_self
      · exact .inr (List.mem_cons_of_mem _ h3)
theorem foldl_max_le : ∀ (l : List Int) (x : Int), x ≤ l.foldl max x ∧ (∀ y ∈ l, y ≤ l.foldl max x) ∧ (l.foldl max x = x ∨ l.foldl max x ∈ l)
  | [], x => ⟨Int.le_refl _, fun _ h => by simp at h, .inl rfl⟩
  | y :: l, x => by
    obtain ⟨h1, h2, h3⟩ := foldl_max_le l (max x y)
    rw [List.foldl_cons]
    refine ⟨by omega, fun z hz => ?_, ?_⟩
    · rcases List.mem_cons.mp hz with e | hz
      · rw [e]; omega
      · exact h2 z hz
    · rcases h3 with e | h3
      · by_cases q : y ≤ x
        · left; rw [e]; omega
        · right; rw [e]
          have : max x y = y := by omega
          rw [this]
          exact List.mem_cons_self
      · exact .inr (List.mem_cons_of_mem _ h3)
theorem leastI_spec {l : List Int} (h : l ≠ []) : leastI l ∈ l ∧ ∀ y ∈ l, leastI l ≤ y := by
  cases l with
  | nil => exact absurd rfl h
  | cons x r =>
    obtain ⟨h1, h2, h3⟩ := foldl_min_le r x
    refine ⟨?_, fun y hy => ?_⟩
    · rcases h3 with e | h3
      · show r.foldl min x ∈ x :: r
        rw [e]; exact List.mem_cons_self
      · exact List.mem_cons_of_mem _ h3
    · rcases List.mem_cons.mp hy with e | hy
      · rw [e]; exact h1
      · exact h2 y hy
theorem mostI_spec {l : List Int} (h : l ≠ []) : mostI l ∈ l ∧ ∀ y ∈ l, y ≤ mostI l := by
  cases l with
  | nil => exact absurd rfl h
  | cons x r =>
    obtain ⟨h1, h2, h3⟩ := foldl_max_le r x
    refine ⟨?_, fun y hy => ?_⟩
    · rcases h3 with e | h3
      · show r.foldl max x ∈ x :: r
        rw [e]; exact List.mem_cons_self
      · exact List.mem_cons_of_mem _ h3
    · rcases List.mem_cons.mp hy with e | hy
      · rw [e]; exact h1
      · exact h2 y hy
theorem boot_ty_max : bootBuiltins "max" = some (.builtin "max") := by decide +kernel
theorem boot_ty_min : bootBuiltins "min" = some (.builtin "min") := by decide +kernel
theorem ge_maxL {ns : List Int} (hm : X.mg "max" = none) (hk : X.calm = true) (ha : GS X C Γ e (ns.map .int)) (hne : ns ≠ []) (hg : Gl X "max" := by rfl) (hs : starEach [e] X.env = (false, eval e X.env) :: starEach [] X.env := by rfl) (hpl : (backTo pos (starEach [] X.env)).any (·.1) = false := by rfl) :
    GE X C Γ (.Call (.Name "max" p) [e] [] pos) (.int (mostI ns)) :=
  gx_B1 (cr_max hk) hg hm boot_ty_max (by decide) (by decide) ha (fun σ ps H H1 v S t r Q q => by
    obtain ⟨a, rfl, h1⟩ := src_ints r
    refine ⟨a, ns, rfl, h1, List.length_pos_iff.mpr hne, fun m hm1 hm2 => ?_⟩
    have e : m = mostI ns := Int.le_antisymm ((mostI_spec hne).2 m hm1) (hm2 _ (mostI_spec hne).1)
    subst e
    exact q _ H1 (.refl S.inv) (.int _)) hs hpl
theorem ge_minL {ns : List Int} (hm : X.mg "min" = none) (hk : X.calm = true) (ha : GS X C Γ e (ns.map .int)) (hne : ns ≠ []) (hg : Gl X "min" := by rfl) (hs : starEach [e] X.env = (false, eval e X.env) :: starEach [] X.env := by rfl) (hpl : (backTo pos (starEach [] X.env)).any (·.1) = false := by rfl) :
    GE X C Γ (.Call (.Name "min" p) [e] [] pos) (.int (leastI ns)) :=
  gx_B1 (cr_min hk) hg hm boot_ty_min (by decide) (by decide) ha (fun σ ps H H1 v S t r Q q => by
    obtain ⟨a, rfl, h1⟩ := src_ints r
    refine ⟨a, ns, rfl, h1, List.length_pos_iff.mpr hne, fun m hm1 hm2 => ?_⟩
    have e : m = leastI ns := Int.le_antisymm (hm2 _ (leastI_spec hne).1) ((leastI_spec hne).2 m hm1)
    subst e
    exact q _ H1 (.refl S.inv) (.int _)) hs hpl
theorem boot_ty_tuple : bootBuiltins "tuple" = some (.type "tuple") := by decide +kernel
theorem boot_ty_list : bootBuiltins "list" = some (.type "list") := by decide +kernel
theorem ge_tupleOf (hm : X.mg "tuple" = none) (ha : GS X C Γ e ds) (hg : Gl X "tuple" := by rfl) (hs : starEach [e] X.env = (false, eval e X.env) :: starEach [] X.env := by rfl) (hpl : (backTo pos (starEach [] X.env)).any (·.1) = false := by rfl) :
    GE X C Γ (.Call (.Name "tuple" p) [e] [] pos) (.tuple ds) :=
  gx_T1 call_tuple_of hg hm boot_ty_tuple (by decide) (by decide) ha (fun σ ps H H1 v S t r Q q => by
    obtain ⟨a, vs, rfl, h1, h2⟩ := r
    refine ⟨a, vs, rfl, .inl ⟨h1, fun l hl => ?_⟩⟩
    refine q _ _ (.new S hl) (Dp.tup (.inl (.inl ?_)) (dpAll_mono (hid_new hl) h2))
    exact hid_is ((S.freshN hl).1) upd_same trivial) hs hpl
theorem gl_listL (hm : X.mg "list" = none) (ha : GS X C Γ e ds) (hg : Gl X "list" := by rfl) (hs : starEach [e] X.env = (false, eval e X.env) :: starEach [] X.env := by rfl) (hpl : (backTo pos (starEach [] X.env)).any (·.1) = false := by rfl) :
    GL X C Γ (.Call (.Name "list" p) [e] [] pos) ds :=
  gx_T1 call_list_of hg hm boot_ty_list (by decide) (by decide) ha (fun σ ps H H1 v S t r Q q => by
    obtain ⟨a, vs, rfl, h1, h2⟩ := r
    refine ⟨a, vs, rfl, .inl h1, fun l hl => q _ _ (.new S hl) ⟨l, vs, rfl, ?_, upd_same, dpAll_mono (hid_new1 hl) h2⟩⟩
    exact fun z => ntd_none hl (t.dom l z)) hs hpl
theorem gl_listT (hm : X.mg "list" = none) (ha : GE X C Γ e (.tuple ds)) (hg : Gl X "list" := by rfl) (hs : starEach [e] X.env = (false, eval e X.env) :: starEach [] X.env := by rfl) (hpl : (backTo pos (starEach [] X.env)).any (·.1) = false := by rfl) :
    GL X C Γ (.Call (.Name "list" p) [e] [] pos) ds :=
  gx_T1 call_list_of hg hm boot_ty_list (by decide) (by decide) ha (fun σ ps H H1 v S t r Q q => by
    obtain ⟨a, vs, rfl, h1, h2⟩ := dp_tuple r
    refine ⟨a, vs, rfl, .inr (seqT_hid h1), fun l hl => q _ _ (.new S hl) ⟨l, vs, rfl, ?_, upd_same, dpAll_mono (hid_new1 hl) h2⟩⟩
    exact fun z => ntd_none hl (t.dom l z)) hs hpl
def tyName : PyData → String
  | .none => "NoneType"
  | .bool _ => "bool"
  | .int _ => "int"
  | .str _ => "str"
  | .list _ => "list"
  | .tuple _ => "tuple"
  | .dict _ => "dict"
theorem tyX_of {K : PySem.W.Frag} {H : Hp} {v : V} {d : PyData} (h : Dp K H v d) : TyX K H v (.type (tyName d)) := by
  cases h with
  | non => exact .base .non
  | bl b => exact .base (.bl b)
  | int i => exact .base (.int i)
  | str x => exact .base (.str x)
  | lst h1 h2 =>
    rcases h1 with (h | ⟨o, h⟩) | ⟨o, its, n, h, hc, _⟩
    · exact .base (.lst h)
    · exact .base (.frz h)
    · exact .kList h hc
  | tup h1 h2 =>
    rcases h1 with (h | ⟨o, h⟩) | ⟨o, its, n, h, hc, _⟩
    · exact .base (.tup h)
    · exact .fTuple h
    · exact .kTuple h hc
theorem boot_ty_isi : bootBuiltins "isinstance" = some (.builtin "isinstance") := by decide +kernel
/-- isinstance(e, T), T a built-in class's name -/
theorem dp_nodict {K : PySem.W.Frag} {H : Hp} {v : V} {d : PyData} (h : Dp K H v d) : ∀ kvs, d ≠ .dict kvs := fun kvs e => by
  subst e
  cases h
def isIntD : PyData → Bool
  | .int _ => true
  | .bool _ => true
  | _ => false
def isBoolD : PyData → Bool
  | .bool _ => true
  | _ => false
def isTupD : PyData → Bool
  | .tuple _ => true
  | _ => false
def isStrD : PyData → Bool
  | .str _ => true
  | _ => false
theorem kit_int : ∀ {d : PyData}, (∀ kvs, d ≠ .dict kvs) → kitB (tyName d) "int" = some (isIntD d)
  | .none, _ => (by decide +kernel : kitB "NoneType" "int" = some false)
  | .bool _, _ => (by decide +kernel : kitB "bool" "int" = some true)
  | .int _, _ => (by decide +kernel : kitB "int" "int" = some true)
  | .str _, _ => (by decide +kernel : kitB "str" "int" = some false)
  | .list _, _ => (by decide +kernel : kitB "list" "int" = some false)
  | .tuple _, _ => (by decide +kernel : kitB "tuple" "int" = some false)
  | .dict _, h => absurd rfl (h _)
theorem kit_bool : ∀ {d : PyData}, (∀ kvs, d ≠ .dict kvs) → kitB (tyName d) "bool" = some (isBoolD d)
  | .none, _ => (by decide +kernel : kitB "NoneType" "bool" = some false)
  | .bool _, _ => (by decide +kernel : kitB "bool" "bool" = some true)
  | .int _, _ => (by decide +kernel : kitB "int" "bool" = some false)
  | .str _, _ => (by decide +kernel : kitB "str" "bool" = some false)
  | .list _, _ => (by decide +kernel : kitB "list" "bool" = some false)
  | .tuple _, _ => (by decide +kernel : kitB "tuple" "bool" = some false)
  | .dict _, h => absurd rfl (h _)
theorem kit_tup : ∀ {d : PyData}, (∀ kvs, d ≠ .dict kvs) → kitB (tyName d) "tuple" = some (isTupD d)
  | .none, _ => (by decide +kernel : kitB "NoneType" "tuple" = some false)
  | .bool _, _ => (by decide +kernel : kitB "bool" "tuple" = some false)
  | .int _, _ => (by decide +kernel : kitB "int" "tuple" = some false)
  | .str _, _ => (by decide +kernel : kitB "str" "tuple" = some false)
  | .list _, _ => (by decide +kernel : kitB "list" "tuple" = some false)
  | .tuple _, _ => (by decide +kernel : kitB "tuple" "tuple" = some true)
  | .dict _, h => absurd rfl (h _)
theorem kit_str : ∀ {d : PyData}, (∀ kvs, d ≠ .dict kvs) → kitB (tyName d) "str" = some (isStrD d)
  | .none, _ => (by decide +kernel : kitB "NoneType" "str" = some false)
  | .bool _, _ => (by decide +kernel : kitB "bool" "str" = some false)
  | .int _, _ => (by decide +kernel : kitB "int" "str" = some false)
  | .str _, _ => (by decide +kernel : kitB "str" "str" = some true)
  | .list _, _ => (by decide +kernel : kitB "list" "str" = some false)
  | .tuple _, _ => (by decide +kernel : kitB "tuple" "str" = some false)
  | .dict _, h => absurd rfl (h _)
theorem boot_ty_bool : bootBuiltins "bool" = some (.type "bool") := by decide +kernel
theorem boot_ty_str : bootBuiltins "str" = some (.type "str") := by decide +kernel
/-- isinstance(e, T), T a built-in class's name -/
theorem ge_isi {T : Str} {tn : String} {p2 : Pos} {f : PyData → Bool} (hT : T ≠ "__name__") (hdT : (T == ("__debug__" : Str)) = false) (hvT : bootBuiltins T = some (.type tn)) (hf : ∀ {d : PyData}, (∀ kvs, d ≠ .dict kvs) → kitB (tyName d) tn = some (f d))
    (hm : X.mg "isinstance" = none) (hmT : X.mg T = none) (ha : GR X C Γ e d) (hg : Gl X "isinstance") (hgT : Gl X T)
    (hs : starEach [e, .Name T p2] X.env = (false, eval e X.env) :: starEach [.Name T p2] X.env) (hs2 : starEach [.Name T p2] X.env = (false, eval (.Name T p2) X.env) :: starEach [] X.env) (hpl : (backTo pos (starEach [.Name T p2] X.env)).any (·.1) = false) :
    GE X C Γ (.Call (.Name "isinstance" p) [e, .Name T p2] [] pos) (.bool (f d)) :=
  gx_of (pe_callB call_isi hg hm boot_ty_isi (pa_cons pe_can (pa_cons (pe_bltn (v := .ty tn) hgT hmT hvT rfl hT hdT) pa_nil hs2) hs) (by decide) (by decide) hs hpl) fun σ ps H S Q q => ha σ ps H S _ fun v H1 t1 r1 =>
    ⟨v, .ty tn, .type (tyName d), .type tn, f d, rfl, .ty tn, tyX_of r1, kit_ty (hf (dp_nodict r1)), q _ H1 t1 (.bl _)⟩
theorem ge_isInt {p2 : Pos} (hm : X.mg "isinstance" = none) (hmT : X.mg "int" = none) (ha : GR X C Γ e d) (hg : Gl X "isinstance" := by rfl) (hgT : Gl X "int" := by rfl)
    (hs : starEach [e, .Name "int" p2] X.env = (false, eval e X.env) :: starEach [.Name "int" p2] X.env := by rfl) (hs2 : starEach [.Name "int" p2] X.env = (false, eval (.Name "int" p2) X.env) :: starEach [] X.env := by rfl) (hpl : (backTo pos (starEach [.Name "int" p2] X.env)).any (·.1) = false := by rfl) :
    GE X C Γ (.Call (.Name "isinstance" p) [e, .Name "int" p2] [] pos) (.bool (isIntD d)) := ge_isi (by decide) (by decide) boot_ty_int kit_int hm hmT ha hg hgT hs hs2 hpl
theorem ge_isBool {p2 : Pos} (hm : X.mg "isinstance" = none) (hmT : X.mg "bool" = none) (ha : GR X C Γ e d) (hg : Gl X "isinstance" := by rfl) (hgT : Gl X "bool" := by rfl)
    (hs : starEach [e, .Name "bool" p2] X.env = (false, eval e X.env) :: starEach [.Name "bool" p2] X.env := by rfl) (hs2 : starEach [.Name "bool" p2] X.env = (false, eval (.Name "bool" p2) X.env) :: starEach [] X.env := by rfl) (hpl : (backTo pos (starEach [.Name "bool" p2] X.env)).any (·.1) = false := by rfl) :
    GE X C Γ (.Call (.Name "isinstance" p) [e, .Name "bool" p2] [] pos) (.bool (isBoolD d)) := ge_isi (by decide) (by decide) boot_ty_bool kit_bool hm hmT ha hg hgT hs hs2 hpl
theorem ge_isTup {p2 : Pos} (hm : X.mg "isinstance" = none) (hmT : X.mg "tuple" = none) (ha : GR X C Γ e d) (hg : Gl X "isinstance" := by rfl) (hgT : Gl X "tuple" := by rfl)
    (hs : starEach [e, .Name "tuple" p2] X.env = (false, eval e X.env) :: starEach [.Name "tuple" p2] X.env := by rfl) (hs2 : starEach [.Name "tuple" p2] X.env = (false, eval (.Name "tuple" p2) X.env) :: starEach [] X.env := by rfl) (hpl : (backTo pos (starEach [.Name "tuple" p2] X.env)).any (·.1) = false := by rfl) :
    GE X C Γ (.Call (.Name "isinstance" p) [e, .Name "tuple" p2] [] pos) (.bool (isTupD d)) := ge_isi (by decide) (by decide) boot_ty_tuple kit_tup hm hmT ha hg hgT hs hs2 hpl
theorem ge_isStr {p2 : Pos} (hm : X.mg "isinstance" = none) (hmT : X.mg "str" = none) (ha : GR X C Γ e d) (hg : Gl X "isinstance" := by rfl) (hgT : Gl X "str" := by rfl)
    (hs : starEach [e, .Name "str" p2] X.env = (false, eval e X.env) :: starEach [.Name "str" p2] X.env := by rfl) (hs2 : starEach [.Name "str" p2] X.env = (false, eval (.Name "str" p2) X.env) :: starEach [] X.env := by rfl) (hpl : (backTo pos (starEach [.Name "str" p2] X.env)).any (·.1) = false := by rfl) :
    GE X C Γ (.Call (.Name "isinstance" p) [e, .Name "str" p2] [] pos) (.bool (isStrD d)) := ge_isi (by decide) (by decide) boot_ty_str kit_str hm hmT ha hg hgT hs hs2 hpl
end
end Fw
namespace Fw
open PySem PySem.Spec PyProof.Rows L2

section
variable {X : Cx} {C : Ct} {Γ : List Slot} {e a b c : Expr} {es : List Expr} {d d1 d2 : PyData} {R Ra Rb : Rel} {pos p : Pos} {ds ds' : List PyData} {x : Str}
theorem atI_dp {K : PySem.W.Frag} {G : Hp} {vs : List V} {ds : List PyData} {i : Int} {d : PyData} (h : DpAll K G vs ds) (e : atI ds i = some d) : ∃ v, atI vs i = some v ∧ Dp K G v d := by
  have hl := dpAll_len h
  unfold atI at e ⊢
  rw [hl]
  cases q : ixN ds.length i with
  | none => rw [q] at e; cases e
  | some j =>
    rw [q] at e
    exact dpAll_get h e
theorem ge_ixT (ha : GE X C Γ a (.tuple ds)) {i : Int} (hb : GE X C Γ b (.int i)) (h : atI ds i = some d) (hs : PlainIx b := by exact fun _ _ => rfl) : GE X C Γ (.Subscript a b pos) d :=
  gx_of (pe_ix ix_tup pe_can pe_can hs) fun σ ps H S Q q => ha σ ps H S _ fun x H1 t1 r1 => hb σ ps H1 (S.step t1) _ fun y H2 t2 r2 => by
    obtain ⟨p, vs, rfl, h1, h2⟩ := dp_tuple (dp_mono t2.hid r1)
    obtain ⟨v, h3, h4⟩ := atI_dp h2 h
    exact ⟨p, vs, i, v, rfl, dp_int r2, seqT_hid h1, h3, q v H2 (t1.trans t2) h4⟩
/-- of a list that an expression hands out -/
theorem ge_ixF (ha : GE X C Γ a (.list ds)) {i : Int} (hb : GE X C Γ b (.int i)) (h : atI ds i = some d) (hs : PlainIx b := by exact fun _ _ => rfl) : GE X C Γ (.Subscript a b pos) d :=
  gx_of (pe_ix ix_list pe_can pe_can hs) fun σ ps H S Q q => ha σ ps H S _ fun x H1 t1 r1 => hb σ ps H1 (S.step t1) _ fun y H2 t2 r2 => by
    obtain ⟨p, vs, rfl, h1, h2⟩ := dp_list (dp_mono t2.hid r1)
    obtain ⟨v, h3, h4⟩ := atI_dp h2 h
    exact ⟨p, vs, i, v, rfl, dp_int r2, Same.seq hid_sub h1, h3, q v H2 (t1.trans t2) h4⟩
/-- of a list that a slot owns -/
theorem ge_ixO (i : Nat) (h0 : Γ[i]? = some (.own (.lst ds))) {j : Int} (hb : GE X C Γ b (.int j)) (h : atI ds j = some d) (hN : X.N[i]? = some x := by rfl) (hv : Vis X.env.scope x := by first | exact Or.inl rfl | exact Or.inr (Or.inl rfl) | exact Or.inr (Or.inr rfl))
    (hd : (x == ("__debug__" : Str)) = false := by decide) (hcd : (x == ("__classdict__" : Str)) = false := by decide) (hs : PlainIx b := by exact fun _ _ => rfl) : GE X C Γ (.Subscript (.Name x p) b pos) d :=
  gx_of (pe_ix ix_list (pe_var hN hv hd hcd) pe_can hs) fun σ ps H S Q q => by
    obtain ⟨a, u, e1, e2, _⟩ := S.getO h0
    refine ⟨.ref a, e1, hb σ ps H S _ fun y H2 t2 r2 => ?_⟩
    obtain ⟨a', u', e1', _, e3, vs, e4, e5⟩ := (S.step t2).getO h0
    rw [e1] at e1'
    cases e1'
    subst e4
    obtain ⟨v, h3, h4⟩ := atI_dp e5 h
    exact ⟨a, vs, j, v, rfl, dp_int r2, .inl (.inl e3), h3, q v H2 t2 h4⟩
def pocan (X : Cx) (oe : Option Expr) : TO := fun σ H Q => ∀ t : TO, PO X oe t → False → t σ H Q
/-- a slice's part -/
def GO (X : Cx) (C : Ct) (Γ : List Slot) (oe : Option Expr) (o : Option Int) : Prop :=
  ∃ t : TO, PO X oe t ∧ ∀ σ ps H, StOk X.K C Γ σ ps H → ∀ Q : Option Int → Hp → Prop, (∀ H', Stp C H H' → Q o H') → t σ H Q
theorem go_none : GO X C Γ none none := ⟨_, po_none, fun σ ps H S Q q => q H (.refl S.inv)⟩
theorem go_some {i : Int} (h : GE X C Γ e (.int i)) : GO X C Γ (some e) (some i) := ⟨_, po_some pe_can, fun σ ps H S Q q => h σ ps H S _ fun v H1 t1 r1 => ⟨i, dp_int r1, q H1 t1⟩⟩
/-- what a slice takes -/
def cut {α : Type} (xs : List α) (lo hi : Option Int) : List α := (xs.drop (HT.sIx xs.length 0 lo)).take (HT.sIx xs.length xs.length hi - HT.sIx xs.length 0 lo)
theorem cut_dp {K : PySem.W.Frag} {G : Hp} {vs : List V} {ds : List PyData} {lo hi : Option Int} (h : DpAll K G vs ds) : DpAll K G (cutV vs lo hi) (cut ds lo hi) := by
  unfold cutV cut
  rw [dpAll_len h]
  exact dpAll_take _ (dpAll_drop _ h)
theorem gl_slice {lo hi : Option Expr} {l h : Option Int} {p2 : Pos} (ha : GE X C Γ a (.list ds)) (hl : GO X C Γ lo l) (hh : GO X C Γ hi h) : GL X C Γ (.Subscript a (.Slice lo hi none p2) pos) (cut ds l h) := by
  obtain ⟨tl, pl, kl⟩ := hl
  obtain ⟨th, ph, kh⟩ := hh
  exact gx_of (pe_slice sl_list pe_can pl ph) fun σ ps H S Q q => ha σ ps H S _ fun x H1 t1 r1 => kl σ ps H1 (S.step t1) _ fun H2 t2 => kh σ ps H2 ((S.step t1).step t2) _ fun H3 t3 => by
    obtain ⟨p, vs, rfl, h1, h2⟩ := dp_list (dp_mono (t2.trans t3).hid r1)
    have S3 := ((S.step t1).step t2).step t3
    refine ⟨p, vs, rfl, Same.seq hid_sub h1, fun p' hp => q _ _ ((t1.trans (t2.trans t3)).trans (.new S3 hp)) ⟨p', _, rfl, ?_, upd_same, dpAll_mono (hid_new1 hp) (cut_dp h2)⟩⟩
    exact fun z => ntd_none hp ((t1.trans (t2.trans t3)).dom p' z)
theorem ge_sliceT {lo hi : Option Expr} {l h : Option Int} {p2 : Pos} (ha : GE X C Γ a (.tuple ds)) (hl : GO X C Γ lo l) (hh : GO X C Γ hi h) : GE X C Γ (.Subscript a (.Slice lo hi none p2) pos) (.tuple (cut ds l h)) := by
  obtain ⟨tl, pl, kl⟩ := hl
  obtain ⟨th, ph, kh⟩ := hh
  exact gx_of (pe_slice sl_tupA pe_can pl ph) fun σ ps H S Q q => ha σ ps H S _ fun x H1 t1 r1 => kl σ ps H1 (S.step t1) _ fun H2 t2 => kh σ ps H2 ((S.step t1).step t2) _ fun H3 t3 => by
    have r3 := dp_mono (t2.trans t3).hid r1
    obtain ⟨p, vs, rfl, h1, h2⟩ := dp_tuple r3
    have S3 := ((S.step t1).step t2).step t3
    refine ⟨p, vs, rfl, seqT_hid h1, fun z => ?_, fun _ p' hp => q _ _ ((t1.trans (t2.trans t3)).trans (.new S3 hp)) (Dp.tup (.inl (.inl ?_)) (dpAll_mono (hid_new hp) (cut_dp h2)))⟩
    · refine q _ H3 (t1.trans (t2.trans t3)) ?_
      have e : cut ds l h = ds := by
        unfold cut
        rw [dpAll_len h2] at z
        rw [z.1, z.2, Nat.sub_zero, List.drop_zero, List.take_length]
      rw [e]
      exact r3
    · exact hid_is ((S3.freshN hp).1) upd_same trivial
/-- xs[::-1] -/
theorem gl_revL {k : Nat} {p1 p2 p3 : Pos} (ha : GS X C Γ a ds) : GL X C Γ (.Subscript a (.Slice none none (some (.UnaryOp .USub (.Constant (.int 1) k p1) p2)) p3) pos) ds.reverse :=
  gx_of (pe_revL pe_can) fun σ ps H S Q q => ha σ ps H S _ fun x H1 t1 r1 => by
    obtain ⟨p, vs, rfl, h1, h2⟩ := r1
    refine ⟨p, vs, rfl, h1, fun p' hp => q _ _ (t1.trans (.new (S.step t1) hp)) ⟨p', _, rfl, ?_, upd_same, dpAll_mono (hid_new1 hp) (dpAll_rev h2)⟩⟩
    exact fun z => ntd_none hp (t1.dom p' z)
theorem ge_catT (ha : GE X C Γ a (.tuple ds)) (hb : GE X C Γ b (.tuple ds')) (hz : ds.length + ds'.length ≤ 1000000) : GE X C Γ (.BinOp a .Add b pos) (.tuple (ds ++ ds')) :=
  gx_op op_catA ha hb fun σ ps H H1 H2 x y S t r1 r2 Q q => by
    have r1' := dp_mono t.hid r1
    obtain ⟨p1, v1, rfl, h1, h2⟩ := dp_tuple r1'
    obtain ⟨p2, v2, rfl, h3, h4⟩ := dp_tuple r2
    refine ⟨p1, p2, v1, v2, rfl, rfl, seqT_hid h1, seqT_hid h3, by rw [dpAll_len h2, dpAll_len h4]; exact line_le hz, fun z => ?_, fun _ z => ?_, fun _ _ p hp => q _ _ (.new S hp) (Dp.tup (.inl (.inl ?_)) (dpAll_mono (hid_new hp) (dpAll_app h2 h4)))⟩
    · have e : ds = [] := by
        have := dpAll_len h2
        rw [z] at this
        exact List.eq_nil_of_length_eq_zero this.symm
      refine q _ H2 (.refl S.inv) ?_
      show Dp _ _ _ (.tuple (ds ++ ds'))
      rw [e, List.nil_append]
      exact r2
    · have e : ds' = [] := by
        have := dpAll_len h4
        rw [z] at this
        exact List.eq_nil_of_length_eq_zero this.symm
      refine q _ H2 (.refl S.inv) ?_
      show Dp _ _ _ (.tuple (ds ++ ds'))
      rw [e, List.append_nil]
      exact r1'
    · exact hid_is ((S.freshN hp).1) upd_same trivial
/-- a list that is tracked, and that nobody changes meanwhile -/
def rTrk (K : PySem.W.Frag) (C : Ct) (ds : List PyData) : Rel := fun ps _ H' v => ∃ a vs, v = .ref a ∧ H' a = some (.lst vs) ∧ (∀ o, NT o → ¬ C.M a o) ∧ DpAll K (hid (OO C ps) H') vs ds
abbrev GM (X : Cx) (C : Ct) (Γ : List Slot) (e : Expr) (ds : List PyData) : Prop := GX X C Γ e (rTrk X.K C ds)
theorem StOk.noMn {K : PySem.W.Frag} {σ : L2.St} {ps : List (Option Addr)} {H : Hp} {p : Addr} (S : StOk K C Γ σ ps H) (h : ¬ NTd H p) : ∀ o, NT o → ¬ C.M p o := fun o n z => (S.fresh h).1 (.inl (C.MO p o n z))
theorem Stp.back {H H' : Hp} {p : Addr} (t : Stp C H H') (h : ¬ NTd H' p) : ¬ NTd H p := fun z => h (t.dom p z)
theorem gm_gl (h : GL X C Γ e ds) : GM X C Γ e ds := gx_imp h fun σ ps H H' v S t ⟨a, vs, e1, e2, e3, e4⟩ => ⟨a, vs, e1, e3, S.noMn e2, dpAll_mono hid_add e4⟩
theorem gm_own (i : Nat) (h : Γ[i]? = some (.own (.lst ds)) := by rfl) (hN : X.N[i]? = some x := by rfl) (hv : Vis X.env.scope x := by first | exact Or.inl rfl | exact Or.inr (Or.inl rfl) | exact Or.inr (Or.inr rfl))
    (hd : (x == ("__debug__" : Str)) = false := by decide) (hcd : (x == ("__classdict__" : Str)) = false := by decide) : GM X C Γ (.Name x pos) ds :=
  gx_of (pe_var hN hv hd hcd) fun σ ps H S Q q => by
    obtain ⟨a, u, e1, e2, e3, vs, e4, e5⟩ := S.getO h
    subst e4
    exact ⟨.ref a, e1, q _ H (.refl S.inv) ⟨a, vs, rfl, e3, fun o n => S.noM (List.mem_of_getElem? e2) n, e5⟩⟩
theorem gs_gm (h : GM X C Γ e ds) : GS X C Γ e ds := gx_imp h fun σ ps H H' v S t ⟨a, vs, e1, e2, _, e4⟩ => ⟨a, vs, e1, .inl (.inl e2), e4⟩
theorem gl_cat (ha : GM X C Γ a ds) (hb : GM X C Γ b ds') (hz : ds.length + ds'.length ≤ 1000000) : GL X C Γ (.BinOp a .Add b pos) (ds ++ ds') :=
  gx_of (pe_op op_cat pe_can pe_can) fun σ ps H S Q q => ha σ ps H S _ fun x H1 t1 r1 => hb σ ps H1 (S.step t1) _ fun y H2 t2 r2 => by
    obtain ⟨p1, v1, rfl, h1, n1, g1⟩ := r1
    obtain ⟨p2, v2, rfl, h2, n2, g2⟩ := r2
    refine ⟨p1, p2, v1, v2, rfl, rfl, t2.fr p1 _ h1 (n1 _ trivial), h2, by rw [dpAll_len g1, dpAll_len g2]; exact line_le hz, fun p hp => q _ _ ((t1.trans t2).trans (.new ((S.step t1).step t2) hp)) ⟨p, _, rfl, ?_, upd_same, dpAll_mono (hid_new1 hp) (dpAll_app (dpAll_mono t2.hid g1) g2)⟩⟩
    exact (t1.trans t2).back (ntd_none hp)
theorem gl_rep {k : Int} (ha : GM X C Γ a ds) (hb : GE X C Γ b (.int k)) (hk : k ≤ 1000000) (hk0 : -1000000 ≤ k) (hz : ds.length * k.toNat ≤ 1000000) : GL X C Γ (.BinOp a .Mult b pos) (List.replicate k.toNat ds).flatten :=
  gx_of (pe_op op_rep pe_can pe_can) fun σ ps H S Q q => ha σ ps H S _ fun x H1 t1 r1 => hb σ ps H1 (S.step t1) _ fun y H2 t2 r2 => by
    obtain ⟨p1, v1, rfl, h1, n1, g1⟩ := r1
    refine ⟨p1, k, v1, rfl, dp_int r2, t2.fr p1 _ h1 (n1 _ trivial), by omega, by omega, by rw [dpAll_len g1]; exact line_le hz, fun p hp => q _ _ ((t1.trans t2).trans (.new ((S.step t1).step t2) hp)) ⟨p, _, rfl, ?_, upd_same, dpAll_mono (hid_new1 hp) (dpAll_rep (dpAll_mono t2.hid g1) _)⟩⟩
    exact (t1.trans t2).back (ntd_none hp)
theorem rep_one {α : Type} (x : α) : ∀ n : Nat, (List.replicate n [x]).flatten = List.replicate n x
  | 0 => rfl
  | n + 1 => by
    rw [List.replicate_succ, List.flatten_cons, rep_one x n]
    rfl
/-- t * k, k from 2 to 1000, t not empty -/
theorem ge_repT {k : Int} (ha : GE X C Γ a (.tuple ds)) (hb : GE X C Γ b (.int k)) (hn : ds ≠ []) (h1 : 2 ≤ k) (h2 : k ≤ 1000) (h3 : ds.length ≤ 1000) : GE X C Γ (.BinOp a .Mult b pos) (.tuple (List.replicate k.toNat ds).flatten) :=
  gx_op op_repT ha hb fun σ ps H H1 H2 x y S t r1 r2 Q q => by
    obtain ⟨p, vs, rfl, g1, g2⟩ := dp_tuple (dp_mono t.hid r1)
    refine ⟨p, k, vs, rfl, dp_int r2, seqT_hid g1, fun z => hn ?_, h1, h2, by rw [dpAll_len g2]; exact h3, fun p' hp => q _ _ (.new S hp) (Dp.tup (.inl (.inl ?_)) (dpAll_mono (hid_new hp) (dpAll_rep g2 _)))⟩
    · have := dpAll_len g2
      rw [z] at this
      exact List.eq_nil_of_length_eq_zero this.symm
    · exact hid_is ((S.freshN hp).1) upd_same trivial
theorem ge_eqD (hu : X.A.units + 64 < cLine) (ha : GR X C Γ a d1) (hb : GR X C Γ b d2) (st : ∀ σ ps H H', StOk X.K C Γ σ ps H → Stp C H H' → ∀ v, Dp X.K H v d1 → Dp X.K H' v d1) (s1 : SeqAt.shaped d1 = true) (s2 : SeqAt.shaped d2 = true) : GE X C Γ (.Compare a [.Eq] [b] pos) (.bool (PyData.eqv d1 d2)) :=
  gx_of (pe_cmpR (op_eqD hu) pe_can pe_can (nomark _)) fun σ ps H S Q q => ha σ ps H S _ fun x H1 t1 r1 => hb σ ps H1 (S.step t1) _ fun y H2 t2 r2 =>
    ⟨d1, d2, st σ ps H1 H2 (S.step t1) t2 x r1, r2, s1, s2, q _ H2 (t1.trans t2) (.bl _)⟩
theorem ge_eqF (hu : X.A.units + 64 < cLine) (ha : GE X C Γ a d1) (hb : GR X C Γ b d2) (s1 : SeqAt.shaped d1 = true) (s2 : SeqAt.shaped d2 = true) : GE X C Γ (.Compare a [.Eq] [b] pos) (.bool (PyData.eqv d1 d2)) :=
  gx_of (pe_cmpR (op_eqD hu) pe_can pe_can (nomark _)) fun σ ps H S Q q => ha σ ps H S _ fun x H1 t1 r1 => hb σ ps H1 (S.step t1) _ fun y H2 t2 r2 =>
    ⟨d1, d2, dp_mono hid_sub (dp_mono t2.hid r1), r2, s1, s2, q _ H2 (t1.trans t2) (.bl _)⟩
theorem ge_neF (hu : X.A.units + 64 < cLine) (ha : GE X C Γ a d1) (hb : GR X C Γ b d2) (s1 : SeqAt.shaped d1 = true) (s2 : SeqAt.shaped d2 = true) : GE X C Γ (.Compare a [.NotEq] [b] pos) (.bool (!PyData.eqv d1 d2)) :=
  gx_of (pe_cmpR (op_neD hu) pe_can pe_can (nomark _)) fun σ ps H S Q q => ha σ ps H S _ fun x H1 t1 r1 => hb σ ps H1 (S.step t1) _ fun y H2 t2 r2 =>
    ⟨d1, d2, dp_mono hid_sub (dp_mono t2.hid r1), r2, s1, s2, q _ H2 (t1.trans t2) (.bl _)⟩
theorem gt_eqF (hu : X.A.units + 64 < cLine) (ha : GE X C Γ a d1) (hb : GR X C Γ b d2) (s1 : SeqAt.shaped d1 = true) (s2 : SeqAt.shaped d2 = true) : GT X C Γ (.Compare a [.Eq] [b] pos) (PyData.eqv d1 d2) :=
  gt_of (pt_cmpR (op_eqD hu) pe_can pe_can (nomark _)) fun σ ps H S Q q => ha σ ps H S _ fun x H1 t1 r1 => hb σ ps H1 (S.step t1) _ fun y H2 t2 r2 =>
    ⟨d1, d2, dp_mono hid_sub (dp_mono t2.hid r1), r2, s1, s2, _, rfl, q H2 (t1.trans t2)⟩
theorem gt_neF (hu : X.A.units + 64 < cLine) (ha : GE X C Γ a d1) (hb : GR X C Γ b d2) (s1 : SeqAt.shaped d1 = true) (s2 : SeqAt.shaped d2 = true) : GT X C Γ (.Compare a [.NotEq] [b] pos) (!PyData.eqv d1 d2) :=
  gt_of (pt_cmpR (op_neD hu) pe_can pe_can (nomark _)) fun σ ps H S Q q => ha σ ps H S _ fun x H1 t1 r1 => hb σ ps H1 (S.step t1) _ fun y H2 t2 r2 =>
    ⟨d1, d2, dp_mono hid_sub (dp_mono t2.hid r1), r2, s1, s2, _, rfl, q H2 (t1.trans t2)⟩
theorem ge_inD (hu : X.A.units + 65 < cLine) (ha : GE X C Γ a d) (hb : GR X C Γ b (.list ds)) (s1 : SeqAt.shaped d = true) (s2 : SeqAt.shaped (.list ds) = true) (hm : behindInMarks .In b = false := by rfl) : GE X C Γ (.Compare a [.In] [b] pos) (.bool (ds.any fun z => PyData.eqv z d)) :=
  gx_of (pe_cmpR (op_inD hu) pe_can pe_can hm) fun σ ps H S Q q => ha σ ps H S _ fun x H1 t1 r1 => hb σ ps H1 (S.step t1) _ fun y H2 t2 r2 =>
    ⟨d, ds, dp_mono hid_sub (dp_mono t2.hid r1), r2, s1, s2, q _ H2 (t1.trans t2) (.bl _)⟩
theorem ge_niD (hu : X.A.units + 65 < cLine) (ha : GE X C Γ a d) (hb : GR X C Γ b (.list ds)) (s1 : SeqAt.shaped d = true) (s2 : SeqAt.shaped (.list ds) = true) (hm : behindInMarks .NotIn b = false := by rfl) : GE X C Γ (.Compare a [.NotIn] [b] pos) (.bool (!ds.any fun z => PyData.eqv z d)) :=
  gx_of (pe_cmpR (op_notInD hu) pe_can pe_can hm) fun σ ps H S Q q => ha σ ps H S _ fun x H1 t1 r1 => hb σ ps H1 (S.step t1) _ fun y H2 t2 r2 =>
    ⟨d, ds, dp_mono hid_sub (dp_mono t2.hid r1), r2, s1, s2, q _ H2 (t1.trans t2) (.bl _)⟩
theorem gt_inD (hu : X.A.units + 65 < cLine) (ha : GE X C Γ a d) (hb : GR X C Γ b (.list ds)) (s1 : SeqAt.shaped d = true) (s2 : SeqAt.shaped (.list ds) = true) (hm : behindInMarks .In b = false := by rfl) : GT X C Γ (.Compare a [.In] [b] pos) (ds.any fun z => PyData.eqv z d) :=
  gt_of (pt_cmpR (op_inD hu) pe_can pe_can hm) fun σ ps H S Q q => ha σ ps H S _ fun x H1 t1 r1 => hb σ ps H1 (S.step t1) _ fun y H2 t2 r2 =>
    ⟨d, ds, dp_mono hid_sub (dp_mono t2.hid r1), r2, s1, s2, _, rfl, q H2 (t1.trans t2)⟩
theorem gt_niD (hu : X.A.units + 65 < cLine) (ha : GE X C Γ a d) (hb : GR X C Γ b (.list ds)) (s1 : SeqAt.shaped d = true) (s2 : SeqAt.shaped (.list ds) = true) (hm : behindInMarks .NotIn b = false := by rfl) : GT X C Γ (.Compare a [.NotIn] [b] pos) (!ds.any fun z => PyData.eqv z d) :=
  gt_of (pt_cmpR (op_notInD hu) pe_can pe_can hm) fun σ ps H S Q q => ha σ ps H S _ fun x H1 t1 r1 => hb σ ps H1 (S.step t1) _ fun y H2 t2 r2 =>
    ⟨d, ds, dp_mono hid_sub (dp_mono t2.hid r1), r2, s1, s2, _, rfl, q H2 (t1.trans t2)⟩
/-- is | is not of two bools -/
theorem ge_isB {p q : Bool} (ha : GE X C Γ a (.bool p)) (hb : GE X C Γ b (.bool q)) : GE X C Γ (.Compare a [.Is] [b] pos) (.bool (decide (p = q))) :=
  gx_cmp op_isBl ha hb (nomark _) fun σ ps H H1 H2 x y S t r1 r2 Q q => ⟨_, _, dp_bool r1, dp_bool r2, q _ H2 (.refl S.inv) (.bl _)⟩
theorem gt_notB {p q : Bool} (ha : GE X C Γ a (.bool p)) (hb : GE X C Γ b (.bool q)) : GT X C Γ (.Compare a [.IsNot] [b] pos) (!decide (p = q)) :=
  gt_cmpX op_notBl ha hb (nomark _) fun σ ps H H1 H2 x y S t r1 r2 Q q => ⟨_, _, dp_bool r1, dp_bool r2, q H2 (.refl S.inv)⟩
theorem gt_isB {p q : Bool} (ha : GE X C Γ a (.bool p)) (hb : GE X C Γ b (.bool q)) : GT X C Γ (.Compare a [.Is] [b] pos) (decide (p = q)) :=
  gt_cmpX op_isBl ha hb (nomark _) fun σ ps H H1 H2 x y S t r1 r2 Q q => ⟨_, _, dp_bool r1, dp_bool r2, q H2 (.refl S.inv)⟩
/-- truth of a sequence -/
theorem gt_truL (ha : GS X C Γ a ds) (he : ∀ whole, isTrue a X.env whole = (do let v ← whole; standAt a.pos; holding [v] (truthy v)) := by intro _; rfl) : GT X C Γ a (!ds.isEmpty) :=
  gt_of (pt_truth pe_can he) fun σ ps H S Q q => ha σ ps H S _ fun x H1 t1 r1 => by
    obtain ⟨p, vs, rfl, h1, h2⟩ := r1
    refine ⟨!vs.isEmpty, .inl ⟨vs, h1, rfl⟩, ?_⟩
    have e : vs.isEmpty = ds.isEmpty := by
      have := dpAll_len h2
      cases vs <;> cases ds <;> simp_all
    rw [e]
    exact q H1 t1
theorem gt_truT (ha : GE X C Γ a (.tuple ds)) (he : ∀ whole, isTrue a X.env whole = (do let v ← whole; standAt a.pos; holding [v] (truthy v)) := by intro _; rfl) : GT X C Γ a (!ds.isEmpty) :=
  gt_of (pt_truth pe_can he) fun σ ps H S Q q => ha σ ps H S _ fun x H1 t1 r1 => by
    obtain ⟨p, vs, rfl, h1, h2⟩ := dp_tuple r1
    refine ⟨!vs.isEmpty, .inr (.inl ⟨vs, seqT_hid h1, rfl⟩), ?_⟩
    have e : vs.isEmpty = ds.isEmpty := by
      have := dpAll_len h2
      cases vs <;> cases ds <;> simp_all
    rw [e]
    exact q H1 t1
end
end Fw
namespace Fw
open PySem PySem.Spec PyProof.Rows L2

def gcan (X : Cx) (tg : Expr) : TG := fun v σ H Q => ∀ pins s u, Inv X pins σ H s → RelV v u → wpAny (model X.prog X.w) X.A (assign tg X.env u) (fun _ s' => ∃ σ' H', Inv X pins σ' H' s' ∧ Q σ' H') X.xe s
theorem pg_can {X : Cx} {tg : Expr} : PG X tg (gcan X tg) := ⟨fun pins s σ H v u Q I r h => h pins s u I r⟩
/-- the slots behind a target's assignment -/
def GG (X : Cx) (C : Ct) (Γ : List Slot) (tg : Expr) (d : PyData) (Γ' : List Slot) (is : List Nat) : Prop :=
  ∀ σ ps H v, StOk X.K C Γ σ ps H → Dp X.K (hid (OO C ps) H) v d → ∀ Q : L2.St → Hp → Prop, (∀ σ', StOk X.K C Γ' σ' ps H → σ'.length = σ.length → (∀ j, j ∉ is → σ'[j]? = σ[j]?) → Q σ' H) → gcan X tg v σ H Q
def notOwn (Γ : List Slot) (i : Nat) : Bool := match Γ[i]? with
  | some (.own _) => false
  | _ => true
section
variable {K : PySem.W.Frag} {C : Ct} {Γ : List Slot} {σ : L2.St} {ps : List (Option Addr)} {H : Hp}
theorem hid_less {C : Ct} {ps ps' : List (Option Addr)} {H : Hp} (h : ∀ b, some b ∈ ps' → some b ∈ ps) : Same (hid (OO C ps) H) (hid (OO C ps') H) :=
  hid_same fun a o n e => ⟨fun z => n (z.imp id (h a)), e⟩
theorem mem_set_none {ps : List (Option Addr)} {i : Nat} {b : Addr} (h : some b ∈ ps.set i none) : some b ∈ ps := by
  obtain ⟨j, e⟩ := List.getElem?_of_mem h
  by_cases q : i = j
  · subst q
    rw [List.getElem?_set] at e
    split at e
    · split at e <;> cases e
    · contradiction
  · rw [List.getElem?_set_ne q] at e
    exact List.mem_of_getElem? e
/-- a slot takes a value that stands -/
theorem StOk.put {i : Nat} {v : V} {s : Slot} (S : StOk K C Γ σ ps H) (h : SlotOk K (hid (OO C (ps.set i none)) H) H s (some v) none) : StOk K C (Γ.set i s) (σ.set i (some v)) (ps.set i none) H where
  l1 := by rw [List.length_set, List.length_set]; exact S.l1
  l2 := by rw [List.length_set, List.length_set]; exact S.l2
  th := fun a h => S.th a (mem_set_none h)
  fr := S.fr
  dom := S.dom
  od := S.od
  inv := S.inv
  new := fun a e => S.new a (mem_set_none e)
  inj := fun j k a e1 e2 => by
    have key : ∀ {j : Nat}, (ps.set i none)[j]? = some (some a) → ps[j]? = some (some a) := fun {j} e => by
      by_cases q : i = j
      · subst q
        rw [List.getElem?_set] at e
        split at e
        · split at e <;> cases e
        · contradiction
      · rw [List.getElem?_set_ne q] at e
        exact e
    exact S.inj j k a (key e1) (key e2)
  sl := fun j t e => by
    by_cases q : i = j
    · subst q
      have hi : i < Γ.length := by
        rw [← List.length_set (as := Γ) (i := i) (a := s)]
        exact (List.getElem?_eq_some_iff.mp e).1
      rw [List.getElem?_set_self hi] at e
      cases e
      refine ⟨some v, none, List.getElem?_set_self (by rw [← S.l1]; exact hi), List.getElem?_set_self (Nat.lt_of_lt_of_le (by rw [← S.l1]; exact hi) S.l2), h⟩
    · rw [List.getElem?_set_ne q] at e
      obtain ⟨o, p, e1, e2, r⟩ := S.sl j t e
      refine ⟨o, p, by rw [List.getElem?_set_ne q]; exact e1, by rw [List.getElem?_set_ne q]; exact e2, ?_⟩
      have m : Same (hid (OO C ps) H) (hid (OO C (ps.set i none)) H) := hid_less fun b => mem_set_none
      cases t with
      | any => exact r
      | dat d => obtain ⟨r1, w, r2, r3⟩ := r; exact ⟨r1, w, r2, dp_mono m r3⟩
      | raw w => exact r
      | own w => obtain ⟨a, u, r1, r2, r3, r4⟩ := r; exact ⟨a, u, r1, r2, r3, own_mono m r4⟩
/-- a slot that owns nothing takes a value -/
theorem StOk.putD {i : Nat} {v : V} {s : Slot} (S : StOk K C Γ σ ps H) (hno : notOwn Γ i = true) (h : SlotOk K (hid (OO C ps) H) H s (some v) none) : StOk K C (Γ.set i s) (σ.set i (some v)) ps H := by
  have e : ps.set i none = ps ∨ Γ.length ≤ i := by
    by_cases hi : i < Γ.length
    · left
      obtain ⟨o, p, e1, e2, r⟩ := S.sl i Γ[i] (List.getElem?_eq_getElem hi)
      have hp : p = none := by
        unfold notOwn at hno
        rw [List.getElem?_eq_getElem hi] at hno
        revert r hno
        cases Γ[i] with
        | any => intro _ r; exact r
        | dat d => intro _ r; exact r.1
        | raw v => intro _ r; exact r.1
        | own w => intro z; cases z
      subst hp
      apply List.ext_getElem?
      intro j
      by_cases q : i = j
      · subst q
        rw [e2, List.getElem?_set_self (List.getElem?_eq_some_iff.mp e2).1]
      · rw [List.getElem?_set_ne q]
    · right; omega
  rcases e with e | e
  · have z := S.put (i := i) (v := v) (s := s) (by rw [e]; exact h)
    rw [e] at z
    exact z
  · rw [List.set_eq_of_length_le e, List.set_eq_of_length_le (by rw [← S.l1]; exact e)]
    exact S
/-- a slot takes a new object of its own -/
theorem StOk.putO {i : Nat} {a : Addr} {u : HO} {w : Own} (S : StOk K C Γ σ ps H) (hn : ¬ OO C ps a) (h0 : ¬ NTd C.H0 a) (ha : H a = some u) (h : OwnOk K (hid (fun b => OO C ps b ∨ b = a) H) w u)
    (hb : ∀ (j : Nat) (s : Slot) o p, j ≠ i → Γ[j]? = some s → σ[j]? = some o → ps[j]? = some p → SlotOk K (hid (OO C ps) H) H s o p → SlotOk K (hid (fun b => OO C ps b ∨ b = a) H) H s o p) :
    StOk K C (Γ.set i (.own w)) (σ.set i (some (.ref a))) (ps.set i (some a)) H := by
  have mem : ∀ b, some b ∈ ps.set i (some a) → some b ∈ ps ∨ b = a := fun b hm => by
    rcases List.mem_or_eq_of_mem_set hm with z | z
    · exact .inl z
    · cases z; exact .inr rfl
  have sub : Same (hid (fun b => OO C ps b ∨ b = a) H) (hid (OO C (ps.set i (some a))) H) := hid_same fun b o n e => ⟨fun z => by
    rcases z with z | z
    · exact n (.inl (.inl z))
    · rcases mem b z with z | z
      · exact n (.inl (.inr z))
      · exact n (.inr z), e⟩
  refine ⟨by rw [List.length_set, List.length_set]; exact S.l1, by rw [List.length_set, List.length_set]; exact S.l2, fun b hm => ?_, S.fr, S.dom, S.od, S.inv, fun b hm => ?_, fun j k b e1 e2 => ?_, fun j t e => ?_⟩
  · rcases mem b hm with z | z
    · exact S.th b z
    · rw [z]; exact ⟨u, ha, own_nt h⟩
  · rcases mem b hm with z | z
    · exact S.new b z
    · rw [z]; exact h0
  · have nps : some a ∉ ps := fun z => hn (.inr z)
    have key : ∀ {j : Nat}, (ps.set i (some a))[j]? = some (some b) → (j = i ∧ b = a) ∨ (j ≠ i ∧ ps[j]? = some (some b)) := fun {j} e => by
      by_cases q : i = j
      · subst q
        rw [List.getElem?_set] at e
        split at e
        · split at e
          · cases e; exact .inl ⟨rfl, rfl⟩
          · cases e
        · contradiction
      · rw [List.getElem?_set_ne q] at e
        exact .inr ⟨fun z => q z.symm, e⟩
    rcases key e1 with ⟨q1, q2⟩ | ⟨q1, q2⟩ <;> rcases key e2 with ⟨r1, r2⟩ | ⟨r1, r2⟩
    · rw [q1, r1]
    · rw [q2] at r2; exact absurd (List.mem_of_getElem? r2) nps
    · rw [r2] at q2; exact absurd (List.mem_of_getElem? q2) nps
    · exact S.inj j k b q2 r2
  · by_cases q : i = j
    · subst q
      have hi : i < Γ.length := by
        rw [← List.length_set (as := Γ) (i := i) (a := Slot.own w)]
        exact (List.getElem?_eq_some_iff.mp e).1
      rw [List.getElem?_set_self hi] at e
      cases e
      exact ⟨_, _, List.getElem?_set_self (by rw [← S.l1]; exact hi), List.getElem?_set_self (Nat.lt_of_lt_of_le (by rw [← S.l1]; exact hi) S.l2), a, u, rfl, rfl, ha, own_mono sub h⟩
    · rw [List.getElem?_set_ne q] at e
      obtain ⟨o, p, e1, e2, r⟩ := S.sl j t e
      refine ⟨o, p, by rw [List.getElem?_set_ne q]; exact e1, by rw [List.getElem?_set_ne q]; exact e2, ?_⟩
      have r' := hb j t o p (fun z => q z.symm) e e1 e2 r
      cases t with
      | any => exact r'
      | dat d => obtain ⟨r1, w, r2, r3⟩ := r'; exact ⟨r1, w, r2, dp_mono sub r3⟩
      | raw w => exact r'
      | own w => obtain ⟨a, u, r1, r2, r3, r4⟩ := r'; exact ⟨a, u, r1, r2, r3, own_mono sub r4⟩
/-- .. where the new object was laid just now: what stands leans on nothing of it -/
theorem StOk.putN {H' : Hp} {i : Nat} {a : Addr} {u : HO} {w : Own} (S : StOk K C Γ σ ps H) (t : Stp C H H') (hn : ¬ NTd H a) (ha : H' a = some u) (h : OwnOk K (hid (fun b => OO C ps b ∨ b = a) H') w u) :
    StOk K C (Γ.set i (.own w)) (σ.set i (some (.ref a))) (ps.set i (some a)) H' := by
  have S' := S.step t
  have sub : Same (hid (OO C ps) H) (hid (fun b => OO C ps b ∨ b = a) H') := hid_sameN fun b o nt n e => by
    refine ⟨fun z => ?_, t.fr b o e fun z => n (.inl (C.MO b o nt z))⟩
    rcases z with z | z
    · exact n z
    · exact hn (by rw [← z]; exact ⟨o, e, nt⟩)
  refine S'.putO (S.fresh hn).1 (S.fresh hn).2 ha h fun j s o p _ hs ho hp _ => ?_
  obtain ⟨o', p', e1, e2, r⟩ := S.sl j s hs
  rw [ho] at e1; cases e1
  rw [hp] at e2; cases e2
  cases s with
  | any => exact r
  | dat d => obtain ⟨r1, w, r2, r3⟩ := r; exact ⟨r1, w, r2, dp_mono sub r3⟩
  | raw w => exact r
  | own w =>
    obtain ⟨b, u, r1, r2, r3, r4⟩ := r
    subst r1
    exact ⟨b, u, rfl, r2, t.fr b u r3 (S.noM (List.mem_of_getElem? hp) (own_nt r4)), own_mono sub r4⟩
end
section
variable {X : Cx} {C : Ct} {Γ Γ' Γ2 : List Slot} {e : Expr} {d : PyData} {pos : Pos}
theorem gg_name (i : Nat) {x : Str} (hN : X.N.Nodup) (hno : notOwn Γ i = true := by rfl) (hi : X.N[i]? = some x := by rfl) (hx : Loc X.env.scope x := by first | exact Or.inl rfl | exact Or.inr rfl) (hf : X.fn x = true ∨ X.env.scope.names.lookup x = some .local := by first | exact .inl rfl | exact .inr rfl) :
    GG X C Γ (.Name x pos) d (Γ.set i (.dat d)) [i] := fun σ ps H v S r Q q pins s u I rv =>
  (pg_name (pos := pos) hN hi hx hf).run pins s σ H v u Q I rv (q _ (by
    have e := S.putD (i := i) (s := .dat d) hno (v := v) ⟨rfl, v, rfl, r⟩
    exact e) (by rw [List.length_set]) fun j hj => List.getElem?_set_ne (fun z => hj (by simp [z])))
/-- several targets -/
def GGs (X : Cx) (C : Ct) (Γ : List Slot) (ts : List Expr) (ds : List PyData) (Γ' : List Slot) (is : List Nat) : Prop :=
  ∃ t : TGs, PGs X ts t ∧ ∀ σ ps H vs, StOk X.K C Γ σ ps H → DpAll X.K (hid (OO C ps) H) vs ds → ∀ Q : L2.St → Hp → Prop, (∀ σ', StOk X.K C Γ' σ' ps H → σ'.length = σ.length → (∀ j, j ∉ is → σ'[j]? = σ[j]?) → Q σ' H) → t vs σ H Q
theorem ggs_nil : GGs X C Γ [] [] Γ [] := ⟨_, pgs_nil, fun σ ps H vs S r Q q => by
  cases r
  exact ⟨rfl, q σ S rfl fun _ _ => rfl⟩⟩
theorem ggs_cons {es : List Expr} {ds : List PyData} {is js : List Nat} (h1 : GG X C Γ e d Γ' is) (h2 : GGs X C Γ' es ds Γ2 js) (hs : (assignEach (e :: es) X.env).map (·.2) = assign e X.env :: (assignEach es X.env).map (·.2) := by rfl) : GGs X C Γ (e :: es) (d :: ds) Γ2 (is ++ js) := by
  obtain ⟨t, p, k⟩ := h2
  refine ⟨_, pgs_cons pg_can p hs, fun σ ps H vs S r Q q => ?_⟩
  cases r with
  | cons r1 r2 => exact ⟨_, _, rfl, h1 σ ps H _ S r1 _ fun σ' S' l1 m => k σ' ps H _ S' r2 _ fun σ2 S2 l2 m2 => q σ2 S2 (l2.trans l1) fun j hj => (m2 j fun z => hj (List.mem_append_right _ z)).trans (m j fun z => hj (List.mem_append_left _ z))⟩
theorem gg_tup {es : List Expr} {k : Nat} {ds : List PyData} {is : List Nat} (hc : X.calm = true) (h : GGs X C Γ es ds Γ' is) (hl : (assignEach es X.env).length = ds.length := by rfl) (hst : (assignEach es X.env).findIdx? (·.1) = none := by rfl) : GG X C Γ (.Tuple es k pos) (.tuple ds) Γ' is := by
  obtain ⟨t, p, kk⟩ := h
  intro σ ps H v S r Q q pins s u I rv
  obtain ⟨a, vs, rfl, h1, h2⟩ := dp_tuple r
  exact (pg_tup (pos := pos) (k := k) hc p rfl hst).run pins s σ H _ u Q I rv ⟨a, vs, rfl, seqT_hid h1, by rw [dpAll_len h2, hl], kk σ ps H vs S h2 Q q⟩
end

def ican (X : Cx) (tg iter : Expr) : TI := fun σ H R => ∀ pins s, Inv X pins σ H s → wpAny (model X.prog X.w) X.A (eval iter X.env) (fun v s1 => wpAny (model X.prog X.w) X.A (pyIter v) (PIE X pins σ tg R) X.xe s1) X.xe s
theorem pi_can {X : Cx} {tg iter : Expr} : PI X tg iter (ican X tg iter) := ⟨fun pins s σ H R I h => h pins s I⟩
/-- the walk J yields the data ds, whatever else happens from H1 on -/
def Yld (K : PySem.W.Frag) (O : Addr → Prop) (J : It) (ds : List PyData) (H1 : Hp) : Prop :=
  ∀ (O' : Addr → Prop) H2, (∀ a o, H1 a = some o → NT o → ¬ O a → H2 a = some o) → (∀ a, O' a → O a ∨ ¬ NTd H1 a) → (∀ a, O' a → NTd H2 a) →
    (∀ (i : Nat) d, ds[i]? = some d → J.go i H2 ∧ ∀ x H3, J.yld i H2 x H3 → Same H2 H3 ∧ Dp K (hid O' H3) x d) ∧ J.stop ds.length H2
def GI (X : Cx) (C : Ct) (Γ : List Slot) (tg iter : Expr) (ds : List PyData) : Prop :=
  ∀ σ ps H, StOk X.K C Γ σ ps H → ∀ R : It → Hp → Prop, (∀ J H1, Stp C H H1 → Yld X.K (OO C ps) J ds H1 → R J H1) → ican X tg iter σ H R
section
variable {X : Cx} {C : Ct} {Γ Γ' Γ2 : List Slot} {e a b tg iter : Expr} {d : PyData} {pos p : Pos} {ds : List PyData}
theorem gi_of {t : TI} (h : PI X tg iter t) (k : ∀ σ ps H, StOk X.K C Γ σ ps H → ∀ R : It → Hp → Prop, (∀ J H1, Stp C H H1 → Yld X.K (OO C ps) J ds H1 → R J H1) → t σ H R) : GI X C Γ tg iter ds :=
  fun σ ps H S R q pins s I => h.run pins s σ H R I (k σ ps H S R q)
theorem yld_keep {O O' : Addr → Prop} {H1 H2 : Hp} (h1 : ∀ a o, H1 a = some o → NT o → ¬ O a → H2 a = some o) (h2 : ∀ a, O' a → O a ∨ ¬ NTd H1 a) : Same (hid O H1) (hid O' H2) := hid_sameN fun a o nt n e => by
  refine ⟨fun z => ?_, h1 a o e nt n⟩
  rcases h2 a z with y | y
  · exact n y
  · exact y ⟨o, e, nt⟩
theorem gi_list (h : GE X C Γ iter (.list ds)) : GI X C Γ tg iter ds := gi_of (pi_list pe_can) fun σ ps H S R q => h σ ps H S _ fun v H1 t1 r1 => by
  obtain ⟨a, vs, rfl, h1, h2⟩ := dp_list r1
  refine ⟨a, rfl, ⟨vs, Same.seq hid_sub h1⟩, q _ H1 t1 fun O' H2 k1 k2 _ => ?_⟩
  have sub := yld_keep k1 k2
  have g1 : SqL X.K H2 a vs := Same.seq hid_sub (Same.seq sub h1)
  refine ⟨fun i d e => ?_, vs, g1, Nat.le_of_eq (dpAll_len h2)⟩
  obtain ⟨x, e1, e2⟩ := dpAll_get h2 e
  refine ⟨⟨vs, x, g1, e1⟩, fun y H3 z => ?_⟩
  obtain ⟨rfl, z⟩ := z
  have e3 := z vs g1
  rw [e1] at e3
  cases e3
  exact ⟨Same.refl _, dp_mono sub e2⟩
theorem gi_tup (h : GE X C Γ iter (.tuple ds)) : GI X C Γ tg iter ds := gi_of (pi_tup pe_can) fun σ ps H S R q => h σ ps H S _ fun v H1 t1 r1 => by
  obtain ⟨a, vs, rfl, h1, h2⟩ := dp_tuple r1
  refine ⟨a, rfl, ⟨vs, seqT_hid h1⟩, q _ H1 t1 fun O' H2 k1 k2 _ => ?_⟩
  have sub := yld_keep k1 k2
  have g1 : SqT X.K H2 a vs := seqT_hid (seqT_mono sub h1)
  refine ⟨fun i d e => ?_, vs, g1, Nat.le_of_eq (dpAll_len h2)⟩
  obtain ⟨x, e1, e2⟩ := dpAll_get h2 e
  refine ⟨⟨vs, x, g1, e1⟩, fun y H3 z => ?_⟩
  obtain ⟨rfl, z⟩ := z
  have e3 := z vs g1
  rw [e1] at e3
  cases e3
  exact ⟨Same.refl _, dp_mono sub e2⟩
/-- lo, lo + 1, .. n of them -/
def rngD (lo : Int) (n : Nat) : List PyData := (List.range n).map fun (i : Nat) => PyData.int (lo + i)
theorem yld_rng {K : PySem.W.Frag} {O : Addr → Prop} {H1 : Hp} {lo : Int} {n : Nat} : Yld K O (Itr lo n) (rngD lo n) H1 := fun O' H2 _ _ _ => by
  refine ⟨fun i d e => ?_, ?_⟩
  · unfold rngD at e
    rw [List.getElem?_map] at e
    cases q : (List.range n)[i]? with
    | none => rw [q] at e; cases e
    | some j =>
      rw [q] at e
      obtain ⟨h1, h2⟩ := List.getElem?_eq_some_iff.mp q
      rw [List.length_range] at h1
      rw [List.getElem_range] at h2
      subst h2
      have e' : PyData.int (lo + (i : Nat)) = d := Option.some.inj e
      subst e'
      refine ⟨h1, fun x H3 z => ?_⟩
      obtain ⟨rfl, rfl⟩ := z
      exact ⟨Same.refl _, .int _⟩
  · show n ≤ (rngD lo n).length
    unfold rngD
    rw [List.length_map, List.length_range]
    exact Nat.le_refl _
theorem gi_range1 {n : Int} (hm : X.mg "range" = none) (h : GE X C Γ a (.int n)) (h1 : n ≤ 1000000000) (h2 : -1000000000 ≤ n) (hg : Gl X "range" := by rfl) (hs : starEach [a] X.env = [(false, eval a X.env)] := by rfl) : GI X C Γ tg (.Call (.Name "range" p) [a] [] pos) (rngD 0 n.toNat) :=
  gi_of (pi_range1 hg hm (pa_cons pe_can pa_nil hs) hs) fun σ ps H S R q => h σ ps H S _ fun v H1 t1 r1 => by
    rw [dp_int r1]
    exact ⟨n, rfl, by omega, by omega, q _ H1 t1 yld_rng⟩
theorem gi_range2 {m n : Int} (hm : X.mg "range" = none) (ha : GE X C Γ a (.int m)) (hb : GE X C Γ b (.int n)) (h1 : n ≤ 1000000000) (h2 : -1000000000 ≤ n) (h3 : m ≤ 1000000000) (h4 : -1000000000 ≤ m) (hg : Gl X "range" := by rfl)
    (hs : starEach [a, b] X.env = [(false, eval a X.env), (false, eval b X.env)] := by rfl) (hs2 : starEach [b] X.env = [(false, eval b X.env)] := by rfl) : GI X C Γ tg (.Call (.Name "range" p) [a, b] [] pos) (rngD m (n - m).toNat) :=
  gi_of (pi_range2 hg hm (pa_cons pe_can (pa_cons pe_can pa_nil hs2) (by rw [hs, hs2])) hs hs2) fun σ ps H S R q => ha σ ps H S _ fun v H1 t1 r1 => hb σ ps H1 (S.step t1) _ fun u H2 t2 r2 => by
    rw [dp_int r1, dp_int r2]
    exact ⟨m, n, rfl, ⟨by omega, by omega, by omega, by omega⟩, q _ H2 (t1.trans t2) yld_rng⟩
end
end Fw
namespace Fw
open PySem PySem.Spec PyProof.Rows L2

def wipeG (Γ : List Slot) : List Nat → List Slot
  | [] => Γ
  | v :: vs => (wipeG Γ vs).set v .any
theorem wipeG_length (Γ : List Slot) : ∀ vs : List Nat, (wipeG Γ vs).length = Γ.length
  | [] => rfl
  | v :: vs => by unfold wipeG; rw [List.length_set, wipeG_length Γ vs]
theorem wipe_ext {σ σ' : L2.St} (hl : σ'.length = σ.length) : ∀ {vs : List Nat}, (∀ j, j ∉ vs → σ'[j]? = σ[j]?) → wipe σ' vs = wipe σ vs
  | vs, h => by
    have key : ∀ (τ : L2.St) (vs : List Nat) (j : Nat), (wipe τ vs)[j]? = if j ∈ vs then (if j < τ.length then some none else none) else τ[j]? := fun τ vs => by
      induction vs with
      | nil => intro j; simp [wipe]
      | cons v vs ih =>
        intro j
        unfold wipe
        rw [List.getElem?_set, ih j, wipe_length]
        by_cases q : v = j
        · subst q; simp
        · have q' : j ≠ v := fun z => q z.symm
          simp [q, q']
    apply List.ext_getElem?
    intro j
    rw [key, key, hl]
    by_cases q : j ∈ vs
    · rw [if_pos q, if_pos q]
    · rw [if_neg q, if_neg q, h j q]
def notOwns (Γ : List Slot) (vs : List Nat) : Bool := vs.all (notOwn Γ)
section
variable {K : PySem.W.Frag} {C : Ct} {Γ : List Slot} {σ : L2.St} {ps : List (Option Addr)} {H H' : Hp}
theorem StOk.any1 {i : Nat} (S : StOk K C Γ σ ps H) (hno : notOwn Γ i = true) (o : Option V) : StOk K C (Γ.set i .any) (σ.set i o) ps H := by
  have hps : ∀ p, ps[i]? = some p → i < Γ.length → p = none := fun p hp hi => by
    obtain ⟨o', p', e1, e2, r⟩ := S.sl i Γ[i] (List.getElem?_eq_getElem hi)
    rw [hp] at e2
    cases e2
    unfold notOwn at hno
    rw [List.getElem?_eq_getElem hi] at hno
    revert r hno
    cases Γ[i] with
    | any => intro _ r; exact r
    | dat d => intro _ r; exact r.1
    | raw v => intro _ r; exact r.1
    | own w => intro z; cases z
  refine ⟨by rw [List.length_set, List.length_set]; exact S.l1, by rw [List.length_set]; exact S.l2, S.th, S.fr, S.dom, S.od, S.inv, S.new, S.inj, fun j t e => ?_⟩
  by_cases q : i = j
  · subst q
    have hi : i < Γ.length := by
      rw [← List.length_set (as := Γ) (i := i) (a := Slot.any)]
      exact (List.getElem?_eq_some_iff.mp e).1
    rw [List.getElem?_set_self hi] at e
    cases e
    have hl : i < ps.length := Nat.lt_of_lt_of_le (by rw [← S.l1]; exact hi) S.l2
    exact ⟨o, ps[i], List.getElem?_set_self (by rw [← S.l1]; exact hi), List.getElem?_eq_getElem hl, hps _ (List.getElem?_eq_getElem hl) hi⟩
  · rw [List.getElem?_set_ne q] at e
    obtain ⟨o', p', e1, e2, r⟩ := S.sl j t e
    exact ⟨o', p', by rw [List.getElem?_set_ne q]; exact e1, e2, r⟩
theorem notOwn_set {i j : Nat} (h : notOwn Γ j = true) : notOwn (Γ.set i .any) j = true := by
  unfold notOwn at h ⊢
  by_cases q : i = j
  · subst q
    by_cases hi : i < Γ.length
    · rw [List.getElem?_set_self hi]
    · rw [List.getElem?_eq_none (by rw [List.length_set]; omega)]
  · rw [List.getElem?_set_ne q]
    exact h
theorem notOwn_wipe {j : Nat} (h : notOwn Γ j = true) : ∀ vs, notOwn (wipeG Γ vs) j = true
  | [] => h
  | v :: vs => notOwn_set (notOwn_wipe h vs)
theorem StOk.wipe (S : StOk K C Γ σ ps H) : ∀ {vs : List Nat}, notOwns Γ vs = true → StOk K C (wipeG Γ vs) (wipe σ vs) ps H
  | [], _ => S
  | v :: vs, h => by
    have h1 := List.all_eq_true.mp h
    exact (S.wipe (vs := vs) (List.all_eq_true.mpr fun j hj => h1 j (List.mem_cons_of_mem _ hj))).any1 (notOwn_wipe (h1 v List.mem_cons_self) vs) none
/-- one more owned address, of no slot -/
theorem StOk.more {D : Addr} {u : HO} (S : StOk K C Γ σ ps H) (hn : H D = none) (nu : NT u := by trivial) : StOk K C Γ σ (ps ++ [some D]) (upd H D u) := by
  have f := S.freshN hn
  have S1 := S.step (.new S hn (o := u))
  have nps : some D ∉ ps := fun z => f.1 (.inr z)
  have mem : ∀ b, some b ∈ ps ++ [some D] → some b ∈ ps ∨ b = D := fun b hm => by
    rcases List.mem_append.mp hm with z | z
    · exact .inl z
    · right; simpa using z
  refine ⟨S1.l1, Nat.le_trans S1.l2 (by rw [List.length_append]; omega), fun b hm => ?_, S1.fr, S1.dom, S1.od, S1.inv, fun b hm => ?_, fun i j b e1 e2 => ?_, fun i s e => ?_⟩
  · rcases mem b hm with z | z
    · exact S1.th b z
    · rw [z]; exact ⟨u, upd_same, nu⟩
  · rcases mem b hm with z | z
    · exact S.new b z
    · rw [z]; exact f.2
  · have key : ∀ {i : Nat}, (ps ++ [some D])[i]? = some (some b) → ps[i]? = some (some b) ∨ (i = ps.length ∧ b = D) := fun {i} e => by
      rw [List.getElem?_append] at e
      split at e
      · exact .inl e
      · right
        have hlt := (List.getElem?_eq_some_iff.mp e).1
        have : i - ps.length = 0 := by simpa using hlt
        rw [this] at e
        refine ⟨by omega, ?_⟩
        have e' : some D = some b := Option.some.inj e
        exact (Option.some.inj e').symm
    rcases key e1 with z1 | ⟨z1, y1⟩ <;> rcases key e2 with z2 | ⟨z2, y2⟩
    · exact S.inj i j b z1 z2
    · rw [y2] at z1; exact absurd (List.mem_of_getElem? z1) nps
    · rw [y1] at z2; exact absurd (List.mem_of_getElem? z2) nps
    · rw [z1, z2]
  · obtain ⟨o, p, e1, e2, r⟩ := S.sl i s e
    have sub : Same (hid (OO C ps) H) (hid (OO C (ps ++ [some D])) (upd H D u)) := hid_same fun a v n q => by
      refine ⟨fun z => ?_, same_new hn a v q⟩
      rcases z with z | z
      · exact n (.inl z)
      · rcases mem a z with z | z
        · exact n (.inr z)
        · rw [z, hn] at q; cases q
    refine ⟨o, p, e1, by rw [List.getElem?_append_left (List.getElem?_eq_some_iff.mp e2).1]; exact e2, ?_⟩
    cases s with
    | any => exact r
    | dat d => obtain ⟨r1, v, r2, r3⟩ := r; exact ⟨r1, v, r2, dp_mono sub r3⟩
    | raw v => exact r
    | own w => obtain ⟨a, q, r1, r2, r3, r4⟩ := r; exact ⟨a, q, r1, r2, same_new hn _ _ r3, own_mono sub r4⟩
theorem hid_mut {C : Ct} {ps : List (Option Addr)} {H : Hp} {a : Addr} {u : HO} (h : some a ∈ ps) : hid (OO C ps) (upd H a u) = hid (OO C ps) H := by
  funext b
  by_cases q : OO C ps b
  · unfold hid; rw [if_pos q, if_pos q]
  · rw [hid_at q, hid_at q, upd_ne (fun z => q (by rw [z]; exact .inr h))]
/-- an owned object of no slot is changed -/
theorem StOk.mutX {D : Addr} {u u0 : HO} (S : StOk K C Γ σ ps H) (hm : some D ∈ ps) (hD : H D = some u0) (hnf : ¬ Fixed u0) (hs : ∀ (i : Nat), i < Γ.length → ps[i]? ≠ some (some D)) (nu : NT u := by trivial) : StOk K C Γ σ ps (upd H D u) := by
  have at_ : ∀ b, b ≠ D → upd H D u b = H b := fun b h => upd_ne h
  have h0 := S.new D hm
  refine ⟨S.l1, S.l2, fun b hb => ?_, fun a o e n => ?_, fun a e => ?_, S.od, C.Ist H _ (fun a o h e => ?_) S.inv, S.new, S.inj, fun i s e => ?_⟩
  · by_cases q : b = D
    · rw [q]; exact ⟨u, upd_same, nu⟩
    · obtain ⟨o, e1, n1⟩ := S.th b hb
      exact ⟨o, by rw [at_ b q]; exact e1, n1⟩
  · rw [at_ a fun z => by
      have y := S.fr a o e n
      rw [z] at e y
      rw [hD] at y
      cases y
      exact h0 ⟨_, e, nt_unfixed hnf⟩]
    exact S.fr a o e n
  · obtain ⟨o, e1, n1⟩ := S.dom a e
    exact ⟨o, by rw [at_ a fun z => h0 (z ▸ e)]; exact e1, n1⟩
  · rw [at_ a fun z => by
      rw [z] at h e
      rcases h with h | h
      · exact h0 h
      · rw [hD] at e
        cases e
        exact hnf h]
    exact e
  · obtain ⟨o, p, e1, e2, r⟩ := S.sl i s e
    refine ⟨o, p, e1, e2, ?_⟩
    rw [hid_mut hm]
    cases s with
    | any => exact r
    | dat d => exact r
    | raw v => exact r
    | own w =>
      obtain ⟨a, q, r1, r2, r3, r4⟩ := r
      subst r1
      exact ⟨a, q, rfl, r2, by rw [at_ a fun z => hs i (List.getElem?_eq_some_iff.mp e).1 (by rw [e2, z])]; exact r3, r4⟩
end
abbrev Blks (X : Cx) (scope : Scope) (P : Cx → Prop) : Prop := ∀ (s : Shared) (H : Hp) (Cc : Addr) (cl : List (Str × Addr)) (fp : List Addr), P (X.blk s H scope (compEnvC scope cl Cc X.env) fp)
def GTs (X : Cx) (C : Ct) (Γ : List Slot) (ifs : List Expr) (b : Bool) : Prop :=
  ∀ σ ps H, StOk X.K C Γ σ ps H → ∀ Q : Bool → Hp → Prop, (∀ H', Stp C H H' → Q b H') → ∀ pins s, Inv X pins σ H s →
    wpAny (model X.prog X.w) X.A (forIn ifs true fun c r => if r = true then do let ok ← isTrue c X.env (eval c X.env); pure (ForInStep.yield ok) else pure (ForInStep.yield r)) (TP X pins σ Q) X.xe s
section
variable {X : Cx} {C : Ct} {Γ : List Slot} {c : Expr} {b : Bool}
theorem gts_nil : GTs X C Γ [] true := fun σ ps H S Q q pins s I => pts_nil.run pins s σ H Q I (q H (.refl S.inv))
theorem gts_one (h : GT X C Γ c b) : GTs X C Γ [c] b := fun σ ps H S Q q pins s I => (pts_one pt_can).run pins s σ H Q I (h σ ps H S Q q)
end
section
variable {X : Cx} {C : Ct} {Γ : List Slot} {elt tg iter : Expr} {ifs : List Expr} {scope : Scope} {pos : Pos} {α : Type}
/-- the reading of a comprehension, over canonical parts -/
theorem lc_read {own : List (Str × Nat)} {xs : List α} {f : α → PyData} {p : α → Bool} {g : α → PyData} {Γt : α → List Slot} {is : List Nat} (hi : GI X C Γ tg iter (xs.map f)) (hv : notOwns Γ (own.map (·.2)) = true) (hz : xs.length ≤ 1000000)
    (his : is.all (fun i => (own.map (·.2)).contains i) = true)
    (hg : ∀ x ∈ xs, Blks X scope fun Y => GG Y C (wipeG Γ (own.map (·.2))) tg (f x) (Γt x) is) (ht : ∀ x ∈ xs, Blks X scope fun Y => GTs Y C (Γt x) ifs (p x)) (he : ∀ x ∈ xs, p x = true → Blks X scope fun Y => GE Y C (Γt x) elt (g x))
    (σ : L2.St) (ps : List (Option Addr)) (H : Hp) (S : StOk X.K C Γ σ ps H) (Q : VK) (q : ∀ v H', Stp C H H' → rNew X.K C ((xs.filter p).map g) ps H H' v → Q v H') :
    tLc (ican X tg iter) (fun v σ H Q => ∀ (s : Shared) (H1 : Hp) (Cc : Addr) (cl : List (Str × Addr)) (fp : List Addr), gcan (X.blk s H1 scope (compEnvC scope cl Cc X.env) fp) tg v σ H Q)
      (fun σ H Q => ∀ (s : Shared) (H1 : Hp) (Cc : Addr) (cl : List (Str × Addr)) (fp : List Addr) pins s', Inv (X.blk s H1 scope (compEnvC scope cl Cc X.env) fp) pins σ H s' →
        wpAny (model X.prog X.w) X.A (forIn ifs true fun c r => if r = true then do let ok ← isTrue c (compEnvC scope cl Cc X.env) (eval c (compEnvC scope cl Cc X.env)); pure (ForInStep.yield ok) else pure (ForInStep.yield r)) (TP (X.blk s H1 scope (compEnvC scope cl Cc X.env) fp) pins σ Q) (fun _ _ => False) s')
      (fun σ H Q => ∀ (s : Shared) (H1 : Hp) (Cc : Addr) (cl : List (Str × Addr)) (fp : List Addr), tcan (X.blk s H1 scope (compEnvC scope cl Cc X.env) fp) elt σ H Q) (own.map (·.2)) σ H Q := by
  refine hi σ ps H S _ fun J H1 t1 Y D hD => ?_
  have S1 := S.step t1
  have SW : StOk X.K C (wipeG Γ (own.map (·.2))) (wipe σ (own.map (·.2))) (ps ++ [some D]) (upd H1 D (.lst [])) := (S1.wipe hv).more hD
  have hmem : some D ∈ ps ++ [some D] := List.mem_append_right _ (by simp)
  have nps : some D ∉ ps := fun z => (S1.freshN hD).1 (.inr z)
  have hidx : ∀ (Γ' : List Slot), Γ'.length = Γ.length → ∀ (i : Nat), i < Γ'.length → (ps ++ [some D])[i]? ≠ some (some D) := fun Γ' hl i hi z => by
    have : i < ps.length := Nat.lt_of_lt_of_le (by rw [hl] at hi; rw [← S.l1]; exact hi) S.l2
    rw [List.getElem?_append_left this] at z
    exact nps (List.mem_of_getElem? z)
  refine ⟨fun i m H2 => m = xs.length - i ∧ i ≤ xs.length ∧ StOk X.K C (wipeG Γ (own.map (·.2))) (wipe σ (own.map (·.2))) (ps ++ [some D]) H2 ∧ (∀ a o, H1 a = some o → ¬ C.M a o → H2 a = some o) ∧ (∀ a, NTd H1 a → NTd H2 a) ∧
      ∃ vs, H2 D = some (.lst vs) ∧ DpAll X.K (hid (OO C (ps ++ [some D])) H2) vs (((xs.take i).filter p).map g),
    ⟨xs.length, by simp, Nat.zero_le _, SW, fun a o e _ => same_new hD a o e, fun a e => ntd_upd trivial e, [], upd_same, .nil⟩, ?_⟩
  rintro i m H2 ⟨rfl, hi', S2, k1, k2, vs, hvs, dvs⟩
  have yy := Y (OO C (ps ++ [some D])) H2 (fun a o e nt n => k1 a o e fun z => n (.inl (C.MO a o nt z))) (fun a z => by
    rcases z with z | z
    · exact .inl (.inl z)
    · rcases List.mem_append.mp z with z | z
      · exact .inl (.inr z)
      · right
        have : a = D := by simpa using z
        rw [this]; exact ntd_none hD) (fun a z => by
    rcases z with z | z
    · exact S2.dom a (S2.od a z)
    · exact S2.th a z)
  rw [List.length_map] at yy
  by_cases hlt : i < xs.length
  · have hx : xs[i]? = some xs[i] := List.getElem?_eq_getElem hlt
    obtain ⟨go, yld⟩ := yy.1 i (f xs[i]) (by rw [List.getElem?_map, hx]; rfl)
    have hmx : xs[i] ∈ xs := List.getElem_mem hlt
    refine .inr ⟨go, fun H' => StOk X.K C (wipeG Γ (own.map (·.2))) (wipe σ (own.map (·.2))) (ps ++ [some D]) H' ∧ (∀ a o, H1 a = some o → ¬ C.M a o → H' a = some o) ∧ (∀ a, NTd H1 a → NTd H' a) ∧
      ∃ vs, H' D = some (.lst vs) ∧ DpAll X.K (hid (OO C (ps ++ [some D])) H') vs (((xs.take (i + 1)).filter p).map g), fun H' n => ⟨xs.length - (i + 1), by omega, rfl, hlt, n⟩, fun x H3 y => ?_⟩
    obtain ⟨sm, dx⟩ := yld x H3 y
    have t3 : Stp C H2 H3 := .same S2 sm
    have S3 := S2.step t3
    have hD3 := sm D _ hvs
    have nMD := S1.noMn (ntd_none hD)
    have take1 : xs.take (i + 1) = xs.take i ++ [xs[i]] := by
      rw [List.take_add_one, hx]
      rfl
    intro s Ha Cc cl fp
    refine hg xs[i] hmx s Ha Cc cl fp _ _ H3 x S3 dx _ fun σ' S4 l4 m4 => ⟨?_, ?_⟩
    · refine (wipe_ext (by rw [l4]) fun j hj => m4 j fun z => hj ?_).trans ?_
      · have := List.all_eq_true.mp his j z
        simpa using this
      · refine wipe_ext (by rw [wipe_length]) fun j hj => ?_
        have key : ∀ (vs : List Nat), j ∉ vs → (wipe σ vs)[j]? = σ[j]? := fun vs => by
          induction vs with
          | nil => intro _; rfl
          | cons v vs ih =>
            intro hn
            unfold wipe
            rw [List.getElem?_set_ne (fun z => hn (by rw [z]; exact List.mem_cons_self)), ih fun z => hn (List.mem_cons_of_mem _ z)]
        exact key _ hj
    · intro s Ha Cc cl fp pins s' I'
      have hG : (Γt xs[i]).length = Γ.length := by
        rw [S4.l1, l4, wipe_length, S.l1]
      refine ht xs[i] hmx s Ha Cc cl fp σ' _ H3 S4 _ (fun H4 t4 => ?_) pins s' I'
      have S5 := S3.step t4
      have hD4 := t4.fr D _ hD3 (nMD _ trivial)
      cases hp : p xs[i] with
      | false =>
        show _ ∧ _
        refine ⟨S5, fun a o e n => t4.fr a o (sm a o (k1 a o e n)) n, fun a e => t4.dom a (t3.dom a (k2 a e)), vs, hD4, ?_⟩
        rw [take1, List.filter_append, List.filter_cons, hp]
        rw [if_neg Bool.false_ne_true, List.filter_nil, List.append_nil]
        exact dpAll_mono (Same.trans t3.hid t4.hid) dvs
      | true =>
        show ∀ s H1 Cc cl fp, tcan _ elt σ' H4 _
        intro s Ha Cc cl fp
        refine he xs[i] hmx hp s Ha Cc cl fp σ' _ H4 (S4.step t4) _ fun v H5 t5 r5 => ?_
        have S6 := S5.step t5
        have hD5 := t5.fr D _ hD4 (nMD _ trivial)
        have dvs5 := dpAll_mono (Same.trans (Same.trans t3.hid t4.hid) t5.hid) dvs
        refine ⟨vs, hD5, ?_, S6.mutX hmem hD5 (fun z => z) (hidx _ (wipeG_length _ _)), fun a o e n => ?_, fun a e => ?_, vs ++ [v], upd_same, ?_⟩
        · rw [dpAll_len dvs, List.length_map]
          have h1 := List.length_filter_le p (xs.take i)
          have h2 := List.length_take_le i xs
          exact line_lt (by omega)
        · rw [upd_ne (ne_of_none e hD)]
          exact t5.fr a o (t4.fr a o (sm a o (k1 a o e n)) n) n
        · exact ntd_upd trivial (t5.dom a (t4.dom a (t3.dom a (k2 a e))))
        · rw [hid_mut hmem, take1, List.filter_append, List.filter_cons, hp, if_pos rfl, List.filter_nil, List.map_append]
          exact dpAll_app dvs5 (dpAll_one r5)
  · have ei : i = xs.length := by omega
    subst ei
    rw [List.take_length] at dvs
    refine .inl ⟨yy.2, q _ H2 ⟨fun a o e n => k1 a o (t1.fr a o e n) n, fun a e => k2 a (t1.dom a e), S2.inv⟩ ⟨D, vs, rfl, t1.back (ntd_none hD), hvs, dpAll_mono (hid_same fun a o n e => ⟨fun z => n ?_, e⟩) dvs⟩⟩
    rcases z with (z | z) | z
    · exact .inl z
    · exact .inr (List.mem_append_left _ z)
    · exact .inr (by rw [z]; exact hmem)
theorem gl_lc {own : List (Str × Nat)} {xs : List α} {f : α → PyData} {p : α → Bool} {g : α → PyData} {Γt : α → List Slot} {is : List Nat} (hc : X.calm = true) (hN : X.N.Nodup) (hi : GI X C Γ tg iter (xs.map f)) (hz : xs.length ≤ 1000000)
    (hg : ∀ x ∈ xs, Blks X scope fun Y => GG Y C (wipeG Γ (own.map (·.2))) tg (f x) (Γt x) is) (ht : ∀ x ∈ xs, Blks X scope fun Y => GTs Y C (Γt x) ifs (p x)) (he : ∀ x ∈ xs, p x = true → Blks X scope fun Y => GE Y C (Γt x) elt (g x))
    (ok : BlkOk X.N X.env.scope scope own) (hv : notOwns Γ (own.map (·.2)) = true := by rfl) (his : is.all (fun i => (own.map (·.2)).contains i) = true := by rfl) (hs : ∀ x, foldedSetIterable iter X.env x = pure x := by intro _; rfl) :
    GL X C Γ (.ListComp elt [⟨tg, iter, ifs, 0⟩] scope pos) ((xs.filter p).map g) :=
  gx_of (pe_lc (own := own) hc hN pi_can ok (fun s H Cc cl fp => ⟨fun pins s' σ H v u Q I r h => h s _ Cc cl fp pins s' u I r⟩) (fun s H Cc cl fp => ⟨fun pins s' σ H Q I h => h s _ Cc cl fp pins s' I⟩) (fun s H Cc cl fp => ⟨fun pins s' σ H Q I h => h s _ Cc cl fp pins s' I⟩) hs)
    fun σ ps H S Q q => lc_read hi hv hz his hg ht he σ ps H S Q q
end
end Fw
namespace Fw
open PySem PySem.Spec PyProof.Rows L2

def sscan (X : Cx) (st : Stmt) : TS := fun D σ H => ∀ pins s, Inv X pins σ H s → wpAny (model X.prog X.w) X.A (exec st X.env) (SP X pins D) X.xe s
theorem ps_can {X : Cx} {st : Stmt} : PS X st (sscan X st) := ⟨fun pins s σ H D I h => h pins s I⟩
def ssscan (X : Cx) (st : List Stmt) : TS := fun D σ H => ∀ pins s, Inv X pins σ H s → wpAny (model X.prog X.w) X.A (execs st X.env) (SP X pins D) X.xe s
theorem pss_can {X : Cx} {st : List Stmt} : PSs X st (ssscan X st) := ⟨fun pins s σ H D I h => h pins s I⟩

/-- what is wanted behind statements, of the slots; of what is handed back -/
structure PQ where
  nx : List Slot → Prop
  rt : Hp → V → Prop
  bk : List Slot → Prop := fun _ => False
  ct : List Slot → Prop := fun _ => False
/-- the state at a def's end -/
structure EndOk (C : Ct) (H' : Hp) : Prop where
  fr : ∀ a o, C.H0 a = some o → ¬ C.M a o → H' a = some o
  dom : ∀ a, NTd C.H0 a → NTd H' a
  inv : C.I H'
theorem StOk.end_ {K : PySem.W.Frag} {C : Ct} {Γ : List Slot} {σ : L2.St} {ps : List (Option Addr)} {H : Hp} (S : StOk K C Γ σ ps H) : EndOk C H := ⟨S.fr, S.dom, S.inv⟩
/-- a datum is handed back -/
def rtD (K : PySem.W.Frag) (C : Ct) (P : PyData → Prop) : Hp → V → Prop := fun H' v => ∃ d, P d ∧ Dp K (hid C.O0 H') v d
/-- what stands between two states: what nobody owns stays, new owners own new things -/
structure Frm (C : Ct) (ps : List (Option Addr)) (H : Hp) (ps' : List (Option Addr)) (H' : Hp) : Prop where
  keep : ∀ a o, H a = some o → NT o → ¬ OO C ps a → H' a = some o
  owns : ∀ a, OO C ps' a → OO C ps a ∨ ¬ NTd H a
  dom : ∀ a, NTd H a → NTd H' a
section
variable {K : PySem.W.Frag} {C : Ct} {Γ : List Slot} {σ : L2.St} {ps ps' ps2 : List (Option Addr)} {H H' H2 : Hp}
theorem Frm.refl : Frm C ps H ps H := ⟨fun _ _ e _ _ => e, fun _ h => .inl h, fun _ e => e⟩
theorem Frm.trans (a : Frm C ps H ps' H') (b : Frm C ps' H' ps2 H2) : Frm C ps H ps2 H2 where
  keep := fun p o e nt n => b.keep p o (a.keep p o e nt n) nt fun z => by
    rcases a.owns p z with y | y
    · exact n y
    · exact y ⟨o, e, nt⟩
  owns := fun p z => by
    rcases b.owns p z with y | y
    · exact a.owns p y
    · exact .inr fun q => y (a.dom p q)
  dom := fun p e => b.dom p (a.dom p e)
theorem Frm.stp (t : Stp C H H') : Frm C ps H ps H' := ⟨fun a o e nt n => t.fr a o e fun z => n (.inl (C.MO a o nt z)), fun _ h => .inl h, t.dom⟩
theorem Frm.less (h : ∀ b, some b ∈ ps' → some b ∈ ps) : Frm C ps H ps' H := ⟨fun _ _ e _ _ => e, fun a z => .inl (z.imp id (h a)), fun _ e => e⟩
theorem Frm.drop {i : Nat} : Frm C ps H (ps.set i none) H := .less fun b => mem_set_none
theorem Frm.new {i : Nat} {a : Addr} (t : Stp C H H') (hn : ¬ NTd H a) : Frm C ps H (ps.set i (some a)) H' :=
  ⟨fun b o e nt n => t.fr b o e fun z => n (.inl (C.MO b o nt z)), fun b z => by
    rcases z with z | z
    · exact .inl (.inl z)
    · rcases List.mem_or_eq_of_mem_set z with z | z
      · exact .inl (.inr z)
      · cases z; exact .inr hn, t.dom⟩
theorem Frm.mut {a : Addr} {u : HO} (h : some a ∈ ps) (nu : NT u := by trivial) : Frm C ps H ps (upd H a u) :=
  ⟨fun b o e _ n => by rw [upd_ne fun z => n (by rw [z]; exact .inr h)]; exact e, fun _ h => .inl h, fun b e => ntd_upd nu e⟩
end
def Hold (K : PySem.W.Frag) (C : Ct) (ps0 : List (Option Addr)) (H0 : Hp) (P : List Slot → Prop) (σ : L2.St) (H : Hp) : Prop := ∃ Γ ps, StOk K C Γ σ ps H ∧ Frm C ps0 H0 ps H ∧ P Γ
def ends (K : PySem.W.Frag) (C : Ct) (ps : List (Option Addr)) (H : Hp) (Q : PQ) : Ends where
  nx := Hold K C ps H Q.nx
  rt := fun v H' => EndOk C H' ∧ Q.rt H' v
  bk := Hold K C ps H Q.bk
  ct := Hold K C ps H Q.ct
theorem ends_imp {X : Cx} {pins : List (Addr × Obj)} {C : Ct} {ps ps' : List (Option Addr)} {H H' : Hp} {Q Q' : PQ} {f : Flow} {s : Shared} (t : Frm C ps H ps' H') (h1 : ∀ Γ, Q.nx Γ → Q'.nx Γ) (h2 : ∀ H v, Q.rt H v → Q'.rt H v) (h3 : ∀ Γ, Q.bk Γ → Q'.bk Γ) (h4 : ∀ Γ, Q.ct Γ → Q'.ct Γ)
    (h : SP X pins (ends X.K C ps' H' Q) f s) : SP X pins (ends X.K C ps H Q') f s := by
  cases f with
  | next => obtain ⟨σ', H', I', Γ', ps', S', t', q⟩ := h; exact ⟨σ', H', I', Γ', ps', S', t.trans t', h1 _ q⟩
  | brk => obtain ⟨σ', H', I', Γ', ps', S', t', q⟩ := h; exact ⟨σ', H', I', Γ', ps', S', t.trans t', h3 _ q⟩
  | cont => obtain ⟨σ', H', I', Γ', ps', S', t', q⟩ := h; exact ⟨σ', H', I', Γ', ps', S', t.trans t', h4 _ q⟩
  | ret v => obtain ⟨u, σ', H', I', r, E, q⟩ := h; exact ⟨u, σ', H', I', r, E, h2 _ _ q⟩
theorem ends_frm {X : Cx} {pins : List (Addr × Obj)} {C : Ct} {ps ps' : List (Option Addr)} {H H' : Hp} {Q : PQ} {f : Flow} {s : Shared} (t : Frm C ps H ps' H') (h : SP X pins (ends X.K C ps' H' Q) f s) : SP X pins (ends X.K C ps H Q) f s :=
  ends_imp t (fun _ q => q) (fun _ _ q => q) (fun _ q => q) (fun _ q => q) h
def W1 (X : Cx) (C : Ct) (Γ : List Slot) (st : Stmt) (Q : PQ) : Prop := ∀ σ ps H, StOk X.K C Γ σ ps H → sscan X st (ends X.K C ps H Q) σ H
def WS (X : Cx) (C : Ct) (Γ : List Slot) (st : List Stmt) (Q : PQ) : Prop := ∀ σ ps H, StOk X.K C Γ σ ps H → ssscan X st (ends X.K C ps H Q) σ H
section
variable {X : Cx} {C : Ct} {Γ Γ' : List Slot} {e a b c : Expr} {d : PyData} {pos p : Pos} {ds : List PyData} {x : Str} {st : Stmt} {rest body els : List Stmt} {Q : PQ}
theorem w1_of {t : TS} (h : PS X st t) (k : ∀ σ ps H, StOk X.K C Γ σ ps H → t (ends X.K C ps H Q) σ H) : W1 X C Γ st Q := fun σ ps H S pins s I => h.run pins s σ H _ I (k σ ps H S)
theorem ws_of {t : TS} (h : PSs X rest t) (k : ∀ σ ps H, StOk X.K C Γ σ ps H → t (ends X.K C ps H Q) σ H) : WS X C Γ rest Q := fun σ ps H S pins s I => h.run pins s σ H _ I (k σ ps H S)
theorem ws_nil (h : Q.nx Γ) : WS X C Γ [] Q := ws_of pss_nil fun σ ps H S => ⟨Γ, ps, S, .refl, h⟩
theorem ws_mid (Mid : List Slot → Prop) (h : W1 X C Γ st { Q with nx := Mid }) (k : ∀ Γ', Mid Γ' → WS X C Γ' rest Q) : WS X C Γ (st :: rest) Q := fun σ ps H S pins s I => by
  refine wpAny_execs_cons (wpAny_mono (h σ ps H S pins s I) (fun f s' q => ?_) fun _ _ z => z)
  cases f with
  | next =>
    obtain ⟨σ', H', I', Γ', ps', S', t, q⟩ := q
    exact wpAny_mono (k Γ' q σ' ps' H' S' pins s' I') (fun f s2 q2 => ends_frm t q2) fun _ _ z => z
  | brk => exact q
  | cont => exact q
  | ret v => exact q
theorem ws_cons (h : W1 X C Γ st { Q with nx := fun Γ' => WS X C Γ' rest Q }) : WS X C Γ (st :: rest) Q := ws_mid _ h fun _ q => q
theorem ws_one (h : W1 X C Γ st Q) : WS X C Γ [st] Q := fun σ ps H S pins s I => (pss_one ps_can).run pins s σ H _ I (h σ ps H S)
theorem w1_imp {Q' : PQ} (h : W1 X C Γ st Q) (h1 : ∀ Γ, Q.nx Γ → Q'.nx Γ) (h2 : ∀ H v, Q.rt H v → Q'.rt H v) (h3 : ∀ Γ, Q.bk Γ → Q'.bk Γ) (h4 : ∀ Γ, Q.ct Γ → Q'.ct Γ) : W1 X C Γ st Q' := fun σ ps H S pins s I =>
  wpAny_mono (h σ ps H S pins s I) (fun f s' q => ends_imp .refl h1 h2 h3 h4 q) fun _ _ z => z
theorem ws_imp {Q' : PQ} (h : WS X C Γ rest Q) (h1 : ∀ Γ, Q.nx Γ → Q'.nx Γ) (h2 : ∀ H v, Q.rt H v → Q'.rt H v) (h3 : ∀ Γ, Q.bk Γ → Q'.bk Γ) (h4 : ∀ Γ, Q.ct Γ → Q'.ct Γ) : WS X C Γ rest Q' := fun σ ps H S pins s I =>
  wpAny_mono (h σ ps H S pins s I) (fun f s' q => ends_imp .refl h1 h2 h3 h4 q) fun _ _ z => z

/-- fewer things known -/
def Wk (Γ Γ' : List Slot) : Prop := ∀ σ ps H K C, StOk K C Γ σ ps H → ∃ ps', StOk K C Γ' σ ps' H ∧ ∀ b, some b ∈ ps' → some b ∈ ps
theorem Wk.refl : Wk Γ Γ := fun σ ps H K C S => ⟨ps, S, fun _ h => h⟩
theorem Wk.trans {Γ2 : List Slot} (a : Wk Γ Γ') (b : Wk Γ' Γ2) : Wk Γ Γ2 := fun σ ps H K C S => by
  obtain ⟨ps1, S1, m1⟩ := a σ ps H K C S
  obtain ⟨ps2, S2, m2⟩ := b σ ps1 H K C S1
  exact ⟨ps2, S2, fun b hb => m1 b (m2 b hb)⟩
/-- slot i forgotten -/
theorem wk_any (i : Nat) : Wk Γ (Γ.set i .any) := fun σ ps H K C S => by
  refine ⟨ps.set i none, ?_, fun b => mem_set_none⟩
  have m : Same (hid (OO C ps) H) (hid (OO C (ps.set i none)) H) := hid_less fun b => mem_set_none
  refine ⟨by rw [List.length_set]; exact S.l1, by rw [List.length_set]; exact S.l2, fun a h => S.th a (mem_set_none h), S.fr, S.dom, S.od, S.inv, fun a e => S.new a (mem_set_none e), fun j k a e1 e2 => ?_, fun j t e => ?_⟩
  · have key : ∀ {j : Nat}, (ps.set i none)[j]? = some (some a) → ps[j]? = some (some a) := fun {j} e => by
      by_cases q : i = j
      · subst q
        rw [List.getElem?_set] at e
        split at e
        · split at e <;> cases e
        · contradiction
      · rw [List.getElem?_set_ne q] at e
        exact e
    exact S.inj j k a (key e1) (key e2)
  · by_cases q : i = j
    · subst q
      have hi : i < Γ.length := by
        rw [← List.length_set (as := Γ) (i := i) (a := Slot.any)]
        exact (List.getElem?_eq_some_iff.mp e).1
      rw [List.getElem?_set_self hi] at e
      cases e
      have h1 : i < σ.length := by rw [← S.l1]; exact hi
      exact ⟨σ[i], none, List.getElem?_eq_getElem h1, List.getElem?_set_self (Nat.lt_of_lt_of_le h1 S.l2), rfl⟩
    · rw [List.getElem?_set_ne q] at e
      obtain ⟨o, p, e1, e2, r⟩ := S.sl j t e
      refine ⟨o, p, e1, by rw [List.getElem?_set_ne q]; exact e2, ?_⟩
      cases t with
      | any => exact r
      | dat d => obtain ⟨r1, w, r2, r3⟩ := r; exact ⟨r1, w, r2, dp_mono m r3⟩
      | raw w => exact r
      | own w => obtain ⟨a, u, r1, r2, r3, r4⟩ := r; exact ⟨a, u, r1, r2, r3, own_mono m r4⟩
/-- an owned list is changed no more -/
theorem wk_frz (i : Nat) {ds : List PyData} (h : Γ[i]? = some (.own (.lst ds))) : Wk Γ (Γ.set i (.dat (.list ds))) := fun σ ps H K C S => by
  obtain ⟨a, u, e1, e2, e3, vs, rfl, e5⟩ := S.getO h
  refine ⟨ps.set i none, ?_, fun b => mem_set_none⟩
  have m : Same (hid (OO C ps) H) (hid (OO C (ps.set i none)) H) := hid_less fun b => mem_set_none
  have z := S.put (i := i) (v := .ref a) (s := .dat (.list ds)) ⟨rfl, _, rfl, Dp.lst (.inl (.inl ?_)) (dpAll_mono m e5)⟩
  · have q : σ.set i (some (.ref a)) = σ := by
      apply List.ext_getElem?
      intro j
      by_cases q : i = j
      · subst q; rw [List.getElem?_set_self (List.getElem?_eq_some_iff.mp e1).1, e1]
      · rw [List.getElem?_set_ne q]
    rw [q] at z
    exact z
  · have hp : some a ∈ ps := List.mem_of_getElem? e2
    refine hid_is (fun q => ?_) e3 trivial
    · rcases q with q | q
      · exact S.noO hp q
      · obtain ⟨j, ej⟩ := List.getElem?_of_mem q
        by_cases y : i = j
        · subst y
          rw [List.getElem?_set] at ej
          split at ej
          · split at ej <;> cases ej
          · contradiction
        · rw [List.getElem?_set_ne y] at ej
          exact y (S.inj i j a e2 ej)
theorem ws_wk (h : Wk Γ Γ') (k : WS X C Γ' rest Q) : WS X C Γ rest Q := fun σ ps H S pins s I => by
  obtain ⟨ps', S', m⟩ := h σ ps H _ C S
  exact wpAny_mono (k σ ps' H S' pins s I) (fun f s' q => ends_frm (.less m) q) fun _ _ z => z
theorem w1_wk (h : Wk Γ Γ') (k : W1 X C Γ' st Q) : W1 X C Γ st Q := fun σ ps H S pins s I => by
  obtain ⟨ps', S', m⟩ := h σ ps H _ C S
  exact wpAny_mono (k σ ps' H S' pins s I) (fun f s' q => ends_frm (.less m) q) fun _ _ z => z

theorem w1_set (i : Nat) (he : GE X C Γ e d) (hq : Q.nx (Γ.set i (.dat d))) (hN : X.N.Nodup) {p' : Pos} (hi : X.N[i]? = some x := by rfl) (hx : Loc X.env.scope x := by first | exact Or.inl rfl | exact Or.inr rfl)
    (hs : swapsWith e (some (.Name x p')) pos.line X.env = pure false := by rfl) (hf : X.fn x = true ∨ X.env.scope.names.lookup x = some .local := by first | exact .inl rfl | exact .inr rfl) : W1 X C Γ (.Assign [.Name x p'] e pos) Q :=
  w1_of (ps_set hN hi hx pe_can hs hf) fun σ ps H S => he σ ps H S _ fun v H1 t1 r1 => ⟨_, _, (S.step t1).put (s := .dat d) ⟨rfl, v, rfl, dp_mono (hid_less fun b => mem_set_none) r1⟩, (Frm.stp t1).trans .drop, hq⟩
/-- .. of some datum -/
theorem w1_setN (i : Nat) {P : PyData → Prop} (he : GN X C Γ e P) (hq : ∀ d, P d → Q.nx (Γ.set i (.dat d))) (hN : X.N.Nodup) {p' : Pos} (hi : X.N[i]? = some x := by rfl) (hx : Loc X.env.scope x := by first | exact Or.inl rfl | exact Or.inr rfl)
    (hs : swapsWith e (some (.Name x p')) pos.line X.env = pure false := by rfl) (hf : X.fn x = true ∨ X.env.scope.names.lookup x = some .local := by first | exact .inl rfl | exact .inr rfl) : W1 X C Γ (.Assign [.Name x p'] e pos) Q :=
  w1_of (ps_set hN hi hx pe_can hs hf) fun σ ps H S => he σ ps H S _ fun v H1 t1 ⟨d, p, r1⟩ => ⟨_, _, (S.step t1).put (s := .dat d) ⟨rfl, v, rfl, dp_mono (hid_less fun b => mem_set_none) r1⟩, (Frm.stp t1).trans .drop, hq d p⟩
/-- a new list, owned by the slot -/
theorem w1_setL (i : Nat) (he : GL X C Γ e ds) (hq : Q.nx (Γ.set i (.own (.lst ds)))) (hN : X.N.Nodup) {p' : Pos} (hi : X.N[i]? = some x := by rfl) (hx : Loc X.env.scope x := by first | exact Or.inl rfl | exact Or.inr rfl)
    (hs : swapsWith e (some (.Name x p')) pos.line X.env = pure false := by rfl) (hf : X.fn x = true ∨ X.env.scope.names.lookup x = some .local := by first | exact .inl rfl | exact .inr rfl) : W1 X C Γ (.Assign [.Name x p'] e pos) Q :=
  w1_of (ps_set hN hi hx pe_can hs hf) fun σ ps H S => he σ ps H S _ fun v H1 t1 ⟨a, vs, e1, e2, e3, e4⟩ => by
    subst e1
    exact ⟨_, _, S.putN (w := .lst _) t1 e2 e3 ⟨vs, rfl, e4⟩, .new t1 e2, hq⟩
theorem w1_ret {P : PyData → Prop} (he : GE X C Γ e d) (hP : P d) (hq : Q.rt = rtD X.K C P := by rfl) : W1 X C Γ (.Return (some e) pos) Q :=
  w1_of (ps_ret pe_can) fun σ ps H S => he σ ps H S _ fun v H1 t1 r1 => by
    refine ⟨(S.step t1).end_, ?_⟩
    rw [hq]
    exact ⟨d, hP, dp_mono (hid_same fun a o n e => ⟨fun z => n (.inl z), e⟩) r1⟩
theorem w1_retN {P P' : PyData → Prop} (he : GN X C Γ e P) (hP : ∀ d, P d → P' d) (hq : Q.rt = rtD X.K C P' := by rfl) : W1 X C Γ (.Return (some e) pos) Q :=
  w1_of (ps_ret pe_can) fun σ ps H S => he σ ps H S _ fun v H1 t1 ⟨d, p, r1⟩ => by
    refine ⟨(S.step t1).end_, ?_⟩
    rw [hq]
    exact ⟨d, hP d p, dp_mono (hid_same fun a o n e => ⟨fun z => n (.inl z), e⟩) r1⟩
/-- an owned list is handed back -/
theorem w1_retO {P : PyData → Prop} (i : Nat) (h : Γ[i]? = some (.own (.lst ds)) := by rfl) (hP : P (.list ds)) (hN : X.N[i]? = some x := by rfl) (hv : Vis X.env.scope x := by first | exact Or.inl rfl | exact Or.inr (Or.inl rfl) | exact Or.inr (Or.inr rfl))
    (hd : (x == ("__debug__" : Str)) = false := by decide) (hcd : (x == ("__classdict__" : Str)) = false := by decide) (hq : Q.rt = rtD X.K C P := by rfl) : W1 X C Γ (.Return (some (.Name x p)) pos) Q :=
  w1_of (ps_ret (pe_var hN hv hd hcd)) fun σ ps H S => by
    obtain ⟨a, u, e1, e2, e3, vs, rfl, e5⟩ := S.getO h
    refine ⟨_, e1, S.end_, ?_⟩
    rw [hq]
    refine ⟨_, hP, Dp.lst (.inl (.inl ?_)) (dpAll_mono (hid_same fun a o n e => ⟨fun z => n (.inl z), e⟩) e5)⟩
    exact hid_is ((S.noO (List.mem_of_getElem? e2))) e3 trivial
theorem w1_retNone {P : PyData → Prop} (hP : P .none) (hq : Q.rt = rtD X.K C P := by rfl) : W1 X C Γ (.Return none pos) Q :=
  w1_of ps_retN fun σ ps H S => ⟨S.end_, by rw [hq]; exact ⟨_, hP, .non⟩⟩
theorem w1_if {z : Bool} (hc : GT X C Γ c z) (h1 : z = true → WS X C Γ body Q) (h2 : z = false → WS X C Γ els Q) : W1 X C Γ (.If c body els pos) Q :=
  w1_of (ps_if pt_can pss_can pss_can) fun σ ps H S => hc σ ps H S _ fun H1 t1 => by
    cases z with
    | true => exact fun pins s I => wpAny_mono (h1 rfl σ ps H1 (S.step t1) pins s I) (fun f s' q => ends_frm (.stp t1) q) fun _ _ z => z
    | false => exact fun pins s I => wpAny_mono (h2 rfl σ ps H1 (S.step t1) pins s I) (fun f s' q => ends_frm (.stp t1) q) fun _ _ z => z
theorem w1_expr (he : GX X C Γ e fun _ _ _ _ => True) (hq : Q.nx Γ) (hs : swapsWith e none pos.line X.env = pure false := by rfl) : W1 X C Γ (.Expr e pos) Q :=
  w1_of (ps_expr pe_can hs) fun σ ps H S => he σ ps H S _ fun v H1 t1 _ => ⟨Γ, ps, S.step t1, .stp t1, hq⟩
theorem w1_pass (hq : Q.nx Γ) : W1 X C Γ (.Pass pos) Q := w1_of ps_pass fun σ ps H S => ⟨Γ, ps, S, .refl, hq⟩
theorem w1_break (hq : Q.bk Γ) : W1 X C Γ (.Break pos) Q := w1_of ps_break fun σ ps H S => ⟨Γ, ps, S, .refl, hq⟩
theorem w1_continue (hq : Q.ct Γ) : W1 X C Γ (.Continue pos) Q := w1_of ps_continue fun σ ps H S => ⟨Γ, ps, S, .refl, hq⟩
/-- tg = e, any target -/
theorem w1_asg {tg : Expr} {is : List Nat} (he : GE X C Γ e d) (hg : GG X C Γ tg d Γ' is) (hq : Q.nx Γ') (hs : swapsWithSole [tg] e pos.line X.env = pure false := by rfl) (hw : swappedStores [tg] e X.env = pure none := by rfl) (h1 : (assignEach [tg] X.env).map (·.2) = [assign tg X.env] := by rfl) : W1 X C Γ (.Assign [tg] e pos) Q :=
  w1_of (ps_asg pe_can pg_can hs hw h1) fun σ ps H S => he σ ps H S _ fun v H1 t1 r1 => hg σ ps H1 v (S.step t1) r1 _ fun σ' S' _ _ => ⟨_, _, S', .stp t1, hq⟩
/-- an owned object of a slot is changed -/
theorem StOk.mutS {K : PySem.W.Frag} {σ : L2.St} {ps : List (Option Addr)} {H : Hp} {i : Nat} {a : Addr} {u : HO} {w w' : Own} (S : StOk K C Γ σ ps H) (h : Γ[i]? = some (.own w)) (hi : ps[i]? = some (some a)) (ho : σ[i]? = some (some (.ref a))) (hw : OwnOk K (hid (OO C ps) H) w' u) :
    StOk K C (Γ.set i (.own w')) σ ps (upd H a u) := by
  have hm : some a ∈ ps := List.mem_of_getElem? hi
  have at_ : ∀ b, b ≠ a → upd H a u b = H b := fun b h => upd_ne h
  have h0 := S.new a hm
  refine ⟨by rw [List.length_set]; exact S.l1, S.l2, fun b hb => ?_, fun b o e n => ?_, fun b e => ?_, S.od, C.Ist H _ (fun b o h e => ?_) S.inv, S.new, S.inj, fun j s e => ?_⟩
  · by_cases q : b = a
    · rw [q]; exact ⟨u, upd_same, own_nt hw⟩
    · obtain ⟨o, e1, n1⟩ := S.th b hb
      exact ⟨o, by rw [at_ b q]; exact e1, n1⟩
  · rw [at_ b fun z => by
      have y := S.fr b o e n
      rw [z] at e y
      obtain ⟨a', u', g1, g2, g3, g4⟩ := S.getO (i := i) (by assumption)
      rw [hi] at g2
      cases g2
      rw [y] at g3
      cases g3
      exact h0 ⟨_, e, own_nt g4⟩]
    exact S.fr b o e n
  · obtain ⟨o, e1, n1⟩ := S.dom b e
    exact ⟨o, by rw [at_ b fun z => h0 (z ▸ e)]; exact e1, n1⟩
  · rw [at_ b fun z => by
      rw [z] at h e
      rcases h with h | h
      · exact h0 h
      · obtain ⟨a', u', g1, g2, g3, g4⟩ := S.getO (i := i) (by assumption)
        rw [hi] at g2
        cases g2
        rw [e] at g3
        cases g3
        exact own_unfixed g4 h]
    exact e
  · rw [hid_mut hm]
    by_cases q : i = j
    · subst q
      rw [List.getElem?_set_self (List.getElem?_eq_some_iff.mp h).1] at e
      cases e
      exact ⟨_, _, ho, hi, a, u, rfl, rfl, upd_same, hw⟩
    · rw [List.getElem?_set_ne q] at e
      obtain ⟨o, p, e1, e2, r⟩ := S.sl j s e
      refine ⟨o, p, e1, e2, ?_⟩
      cases s with
      | any => exact r
      | dat d => exact r
      | raw v => exact r
      | own v =>
        obtain ⟨b, q2, r1, r2, r3, r4⟩ := r
        subst r1
        exact ⟨b, q2, rfl, r2, by rw [at_ b fun z => q (S.inj i j a hi (by rw [e2, z]))]; exact r3, r4⟩
/-- x.append(e), x the list of slot i -/
theorem w1_append (i : Nat) (h : Γ[i]? = some (.own (.lst ds)) := by rfl) (he : GE X C Γ e d) (hz : ds.length ≤ 1000000) (hq : Q.nx (Γ.set i (.own (.lst (ds ++ [d]))))) {p1 p2 : Pos} (hN : X.N[i]? = some x := by rfl) (hv : Vis X.env.scope x := by first | exact Or.inl rfl | exact Or.inr (Or.inl rfl) | exact Or.inr (Or.inr rfl))
    (hd : (x == ("__debug__" : Str)) = false := by decide) (hcd : (x == ("__classdict__" : Str)) = false := by decide) {t : TE} (pe : PE X (.Call (.Attribute (.Name x p1) "append" p2) [e] [] p) t)
    (et : t = tBM X.K "list" rAppend (tVar i) (tCons (tcan X e) tNil)) (hs : swapsWith (.Call (.Attribute (.Name x p1) "append" p2) [e] [] p) none pos.line X.env = pure false := by rfl) : W1 X C Γ (.Expr (.Call (.Attribute (.Name x p1) "append" p2) [e] [] p) pos) Q :=
  w1_of (ps_expr pe hs) fun σ ps H S => by
    rw [et]
    obtain ⟨a, u, e1, e2, e3, vs, rfl, e5⟩ := S.getO h
    refine ⟨_, e1, .inl ⟨rfl, vs, .inl (.inl e3)⟩, he σ ps H S _ fun v H1 t1 r1 => ?_⟩
    have S1 := S.step t1
    obtain ⟨a', u', f1, f2, f3, ws, rfl, f5⟩ := S1.getO h
    rw [e1] at f1
    cases f1
    refine ⟨a, ws, v, rfl, rfl, f3, by rw [dpAll_len f5]; exact line_lt hz, _, ps, S1.mutS h f2 e1 (u := .lst (ws ++ [v])) (w' := .lst (ds ++ [d])) ⟨_, rfl, dpAll_app f5 (dpAll_one r1)⟩, (Frm.stp t1).trans (.mut (List.mem_of_getElem? f2)), hq⟩
/-- x[e] = e2, x the list of slot i -/
theorem w1_setIx (i : Nat) {k : Int} {j : Nat} {d : PyData} (h : Γ[i]? = some (.own (.lst ds)) := by rfl) (he : GE X C Γ e d) (hb : GE X C Γ b (.int k)) (hj : ixN ds.length k = some j) (hq : Q.nx (Γ.set i (.own (.lst (ds.set j d))))) {p1 p2 : Pos} (hN : X.N[i]? = some x := by rfl) (hv : Vis X.env.scope x := by first | exact Or.inl rfl | exact Or.inr (Or.inl rfl) | exact Or.inr (Or.inr rfl))
    (hd : (x == ("__debug__" : Str)) = false := by decide) (hcd : (x == ("__classdict__" : Str)) = false := by decide)
    (ha : ∀ v, assign (.Subscript (.Name x p1) b p2) X.env v = (do
      let ov ← holding [v] (eval (.Name x p1) X.env)
      let iv ← holding [v, ov] (eval b X.env)
      standAt p2
      holding [v, ov, iv] (setItem ov iv v)
      release [v, ov, iv] []) := by intro _; rfl)
    (hs : swapsWithSole [.Subscript (.Name x p1) b p2] e pos.line X.env = pure false := by rfl) (hw : swappedStores [.Subscript (.Name x p1) b p2] e X.env = pure none := by rfl) (h1 : (assignEach [.Subscript (.Name x p1) b p2] X.env).map (·.2) = [assign (.Subscript (.Name x p1) b p2) X.env] := by rfl) :
    W1 X C Γ (.Assign [.Subscript (.Name x p1) b p2] e pos) Q :=
  w1_of (ps_asg pe_can (pg_sub (pe_var hN hv hd hcd) pe_can set_list ha) hs hw h1) fun σ ps H S => he σ ps H S _ fun v H1 t1 r1 => by
    have S1 := S.step t1
    obtain ⟨a, u, e1, _, _⟩ := S1.getO h
    refine ⟨_, e1, hb σ ps H1 S1 _ fun w H2 t2 r2 => ?_⟩
    have S2 := S1.step t2
    obtain ⟨a', u', f1, f2, f3, ws, rfl, f5⟩ := S2.getO h
    rw [e1] at f1
    cases f1
    refine ⟨a, ws, k, j, rfl, dp_int r2, f3, by rw [dpAll_len f5]; exact hj, _, ps, S2.mutS h f2 e1 (u := .lst (ws.set j v)) (w' := .lst (ds.set j d)) ⟨_, rfl, dpAll_set j f5 (dp_mono t2.hid r1)⟩, (Frm.stp (t1.trans t2)).trans (.mut (List.mem_of_getElem? f2)), hq⟩
end
section
variable {X : Cx} {C : Ct} {Γ : List Slot} {elt tg iter : Expr} {ifs : List Expr} {scope : Scope} {pos : Pos} {α : Type} {Q : PQ}
theorem w1_setLc (i : Nat) {y : Str} {py spos : Pos} {own : List (Str × Nat)} {xs : List α} {f : α → PyData} {p : α → Bool} {g : α → PyData} {Γt : α → List Slot} {is : List Nat} (hc : X.calm = true) (hN : X.N.Nodup) (hi : GI X C Γ tg iter (xs.map f)) (hz : xs.length ≤ 1000000)
    (hg : ∀ x ∈ xs, Blks X scope fun Y => GG Y C (wipeG Γ (own.map (·.2))) tg (f x) (Γt x) is) (ht : ∀ x ∈ xs, Blks X scope fun Y => GTs Y C (Γt x) ifs (p x)) (he : ∀ x ∈ xs, p x = true → Blks X scope fun Y => GE Y C (Γt x) elt (g x))
    (hq : Q.nx (Γ.set i (.own (.lst ((xs.filter p).map g)))))
    (ok : BlkOk X.N X.env.scope scope own) (hsw : swapsWith (.ListComp elt [⟨tg, iter, ifs, 0⟩] scope pos) (some (.Name y py)) spos.line X.env = pure true) (hv : notOwns Γ (own.map (·.2)) = true := by rfl) (his : is.all (fun i => (own.map (·.2)).contains i) = true := by rfl) (hs : ∀ x, foldedSetIterable iter X.env x = pure x := by intro _; rfl)
    (hy : X.N[i]? = some y := by rfl) (hyl : X.env.scope.names.lookup y = some .local := by rfl) :
    W1 X C Γ (.Assign [.Name y py] (.ListComp elt [⟨tg, iter, ifs, 0⟩] scope pos) spos) Q :=
  w1_of (ps_setLc (own := own) hc hN hy hyl hsw pi_can ok (fun s H Cc cl fp => ⟨fun pins s' σ H v u Q I r h => h s _ Cc cl fp pins s' u I r⟩) (fun s H Cc cl fp => ⟨fun pins s' σ H Q I h => h s _ Cc cl fp pins s' I⟩) (fun s H Cc cl fp => ⟨fun pins s' σ H Q I h => h s _ Cc cl fp pins s' I⟩) hs)
    fun σ ps H S => lc_read hi hv hz his hg ht he σ ps H S _ fun v H1 t1 ⟨a, vs, e1, e2, e3, e4⟩ => by
      subst e1
      exact ⟨_, _, S.putN (w := .lst _) t1 e2 e3 ⟨vs, rfl, e4⟩, .new t1 e2, hq⟩
end
section
variable {X : Cx} {C : Ct} {Γ : List Slot} {tg iter c : Expr} {body : List Stmt} {pos : Pos} {Q : PQ} {ds : List PyData}
theorem w1_for (Iv : Nat → List Slot → Prop) (hp : PassesOwn (model X.prog X.w) X.A X.env X.xe) (hc : X.calm = true) (hi : GI X C Γ tg iter ds) (h0 : Iv 0 Γ)
    (hs : ∀ (i : Nat) d Γ1, ds[i]? = some d → Iv i Γ1 → ∃ Γ2 is, GG X C Γ1 tg d Γ2 is ∧ WS X C Γ2 body { Q with nx := Iv (i + 1), ct := Iv (i + 1), bk := Q.nx })
    (hd : ∀ Γ', Iv ds.length Γ' → Q.nx Γ') (hf : ∀ x, foldedSetIterable iter X.env x = pure x := by intro _; rfl) : W1 X C Γ (.For tg iter body [] pos) Q :=
  w1_of (ps_for hp hc pi_can pg_can pss_can hf) fun σ ps H S => hi σ ps H S _ fun J H1 t1 Y => by
    have S1 := S.step t1
    refine ⟨fun i m σ' H' => m = ds.length - i ∧ i ≤ ds.length ∧ ∃ Γ' ps', StOk X.K C Γ' σ' ps' H' ∧ Frm C ps H1 ps' H' ∧ Iv i Γ', ⟨ds.length, by simp, Nat.zero_le _, Γ, ps, S1, .refl, h0⟩, ?_⟩
    rintro i m σ' H' ⟨rfl, hle, Γ', ps', S', F', iv⟩
    have yy := Y (OO C ps') H' (fun a o e nt n => F'.keep a o e nt n) F'.owns (fun a z => by
      rcases z with z | z
      · exact S'.dom a (S'.od a z)
      · exact S'.th a z)
    by_cases hlt : i < ds.length
    · obtain ⟨go, yld⟩ := yy.1 i ds[i] (List.getElem?_eq_getElem hlt)
      obtain ⟨Γ2, is, gg, ws⟩ := hs i ds[i] Γ' (List.getElem?_eq_getElem hlt) iv
      refine .inr ⟨go, Hold X.K C ps H1 (Iv (i + 1)), fun σ2 H2 ⟨Γ3, ps3, S3, F3, iv3⟩ => ⟨ds.length - (i + 1), by omega, rfl, hlt, Γ3, ps3, S3, F3, iv3⟩, fun x H3 y => ?_⟩
      obtain ⟨sm, dx⟩ := yld x H3 y
      have t3 : Stp C H' H3 := .same S' sm
      refine gg σ' ps' H3 x (S'.step t3) dx _ fun σ4 S4 _ _ => ?_
      intro pins s I
      refine wpAny_mono (ws σ4 ps' H3 S4 pins s I) (fun f s2 q => ?_) fun _ _ z => z
      have F4 : Frm C ps H1 ps' H3 := F'.trans (.stp t3)
      cases f with
      | next => obtain ⟨σ5, H5, I5, Γ5, ps5, S5, F5, q⟩ := q; exact ⟨σ5, H5, I5, Γ5, ps5, S5, F4.trans F5, q⟩
      | cont => obtain ⟨σ5, H5, I5, Γ5, ps5, S5, F5, q⟩ := q; exact ⟨σ5, H5, I5, Γ5, ps5, S5, F4.trans F5, q⟩
      | brk => obtain ⟨σ5, H5, I5, Γ5, ps5, S5, F5, q⟩ := q; exact ⟨σ5, H5, I5, Γ5, ps5, S5, (Frm.stp t1).trans (F4.trans F5), q⟩
      | ret v => exact q
    · have e : i = ds.length := by omega
      subst e
      exact .inl ⟨yy.2, Γ', ps', S', (Frm.stp t1).trans F', hd Γ' iv⟩
/-- while: Iv by a measure -/
theorem w1_while (Iv : Nat → List Slot → Prop) (m0 : Nat) (hp : PassesOwn (model X.prog X.w) X.A X.env X.xe) (h0 : Iv m0 Γ)
    (hs : ∀ m Γ1, Iv m Γ1 → ∃ b, GT X C Γ1 c b ∧ (b = true → WS X C Γ1 body { Q with nx := fun Γ' => ∃ m', m' < m ∧ Iv m' Γ', ct := fun Γ' => ∃ m', m' < m ∧ Iv m' Γ', bk := Q.nx }) ∧ (b = false → Q.nx Γ1)) : W1 X C Γ (.While c body [] pos) Q :=
  w1_of (ps_while hp pt_can pss_can) fun σ ps H S => by
    refine ⟨fun m σ' H' => ∃ Γ' ps', StOk X.K C Γ' σ' ps' H' ∧ Frm C ps H ps' H' ∧ Iv m Γ', ⟨m0, Γ, ps, S, .refl, h0⟩, ?_⟩
    rintro m σ' H' ⟨Γ', ps', S', F', iv⟩
    obtain ⟨b, gt, h1, h2⟩ := hs m Γ' iv
    refine gt σ' ps' H' S' _ fun H2 t2 => ?_
    have S2 := S'.step t2
    have F2 : Frm C ps H ps' H2 := F'.trans (.stp t2)
    cases b with
    | true =>
      refine ⟨fun σ3 H3 => ∃ m', m' < m ∧ ∃ Γ' ps', StOk X.K C Γ' σ3 ps' H3 ∧ Frm C ps H ps' H3 ∧ Iv m' Γ', fun σ3 H3 h => h, ?_⟩
      intro pins s I
      refine wpAny_mono (h1 rfl σ' ps' H2 S2 pins s I) (fun f s2 q => ?_) fun _ _ z => z
      cases f with
      | next => obtain ⟨σ5, H5, I5, Γ5, ps5, S5, F5, m', hm, q⟩ := q; exact ⟨σ5, H5, I5, m', hm, Γ5, ps5, S5, F2.trans F5, q⟩
      | cont => obtain ⟨σ5, H5, I5, Γ5, ps5, S5, F5, m', hm, q⟩ := q; exact ⟨σ5, H5, I5, m', hm, Γ5, ps5, S5, F2.trans F5, q⟩
      | brk => obtain ⟨σ5, H5, I5, Γ5, ps5, S5, F5, q⟩ := q; exact ⟨σ5, H5, I5, Γ5, ps5, S5, F2.trans F5, q⟩
      | ret v => exact q
    | false => exact ⟨Γ', ps', S2, F2, h2 rfl⟩
end
end Fw
namespace Fw
open PySem PySem.Spec PyProof.Rows L2

/-- what a def does with data: what is wanted of the datum that it hands back, of the name that it refuses -/
abbrev DSpec := List PyData → (PyData → Prop) → (Str → Prop) → Prop
def spP (K : PySem.W.Frag) (CB : Addr) (n : Nat) (F : DSpec) : Sp := fun vs H Q E => ∃ (O : Addr → Prop) (ds : List PyData) (Qd : PyData → Prop) (Qe : Str → Prop), (∀ a, O a → NTd H a) ∧ ds.length = n ∧ DpAll K (hid O H) vs ds ∧ F ds Qd Qe ∧
  (∀ d, Qd d → ∀ v H', Same H H' → Dp K (hid O H') v d → Q v H') ∧ (∀ x, Qe x → ∀ dd H', Same H H' → H dd = none → H' dd = some (.xd [(("name" : Str), .str x)]) → E (.ref CB) (some dd) H')
/-- what is wanted of an error, told of the context -/
def Exc (C : Ct) (CB : Addr) (x : Str) : Prop := ∀ dd H', EndOk C H' → ¬ NTd C.H0 dd → H' dd = some (.xd [(("name" : Str), .str x)]) → C.E (.ref CB) (some dd) H'
/-- a def that may be called -/
structure Cal (P : Program) (w : World) (K : PySem.W.Frag) (mg : Str → Option Value) (base : Heap) (CB : Addr) (k : Nat) (x : Str) (n : Nat) (F : DSpec) : Prop where
  ex : ∃ (f : Addr) (fd : FuncData) (ps : List Str), FnOk P w K mg base (L2.CX P w) k f fd ps (spP K CB n F) ∧ mg x = some (.ref f) ∧ PySem.W.keepIn K (.ref f) = true ∧ Binds K fd ps []
theorem Cal.mono {P : Program} {w : World} {K : PySem.W.Frag} {mg : Str → Option Value} {base : Heap} {CB : Addr} {k k' : Nat} {x : Str} {n : Nat} {F : DSpec} (c : Cal P w K mg base CB k x n F) (h : k ≤ k') : Cal P w K mg base CB k' x n F := by
  obtain ⟨f, fd, ps, h1, h2, h3, h4⟩ := c.ex
  exact ⟨f, fd, ps, h1.mono h, h2, h3, h4⟩
section
variable {X : Cx} {C : Ct} {Γ : List Slot} {e : Expr} {es : List Expr} {d : PyData} {ds : List PyData} {pos p : Pos} {x : Str} {CB : Addr} {k n : Nat} {F : DSpec} {Qd : PyData → Prop} {Qe : Str → Prop}
theorem spP_mk {σ : L2.St} {ps : List (Option Addr)} {H : Hp} {vs : List V} {E : XK} {Q : VK} (S : StOk X.K C Γ σ ps H) (r : DpAll X.K (hid (OO C ps) H) vs ds) (hn : ds.length = n) (hF : F ds Qd Qe) (q : ∀ v H', Stp C H H' → rSome X.K C Qd ps H H' v → Q v H')
    (hE : ∀ x, Qe x → ∀ dd H', Same H H' → H dd = none → H' dd = some (.xd [(("name" : Str), .str x)]) → E (.ref CB) (some dd) H') : spP X.K CB n F vs H Q E :=
  ⟨OO C ps, ds, Qd, Qe, fun a z => by
    rcases z with z | z
    · exact S.dom a (S.od a z)
    · exact S.th a z, hn, r, hF, fun d hd v H' sm hv => q v H' (.same S sm) ⟨d, hd, hv⟩, hE⟩
/-- a call that raises nothing -/
theorem gn_call (Ca : Cal X.prog X.w X.K X.mg X.base CB k x n F) (hr : Room k X.A) (ha : GAs X C Γ (e :: es) ds) (hn : ds.length = n := by rfl) (hF : F ds Qd (fun _ => False)) (hg : Gl X x := by rfl) (hdb : (x == ("__debug__" : Str)) = false := by decide)
    (he : starEach (e :: es) X.env = (false, eval e X.env) :: starEach es X.env := by rfl) (hpl : (backTo pos (starEach es X.env)).any (·.1) = false := by rfl) : GN X C Γ (.Call (.Name x p) (e :: es) [] pos) Qd := by
  obtain ⟨f, fd, ps, h1, h2, h3, h4⟩ := Ca.ex
  refine gx_of (pe_call h1 hr hg h2 h3 h4 .nil passL pa_can hdb he hpl) fun σ ps H S Q q => ha σ ps H S _ fun vs H1 t1 r1 => ?_
  rw [List.append_nil]
  exact spP_mk (S.step t1) r1 hn hF (fun v H' t r => q v H' (t1.trans t) r) fun _ z => z.elim
/-- a call that may raise -/
theorem gn_callE (hx : Passes (L2.CX X.prog X.w) X C.E) (Ca : Cal X.prog X.w X.K X.mg X.base CB k x n F) (hr : Room k X.A) (ha : GAs X C Γ (e :: es) ds) (hn : ds.length = n := by rfl) (hF : F ds Qd Qe) (hE : ∀ x, Qe x → Exc C CB x) (hg : Gl X x := by rfl) (hdb : (x == ("__debug__" : Str)) = false := by decide)
    (he : starEach (e :: es) X.env = (false, eval e X.env) :: starEach es X.env := by rfl) (hpl : (backTo pos (starEach es X.env)).any (·.1) = false := by rfl) : GN X C Γ (.Call (.Name x p) (e :: es) [] pos) Qd := by
  obtain ⟨f, fd, ps, h1, h2, h3, h4⟩ := Ca.ex
  refine gx_of (pe_call h1 hr hg h2 h3 h4 .nil hx pa_can hdb he hpl) fun σ ps H S Q q => ha σ ps H S _ fun vs H1 t1 r1 => ?_
  rw [List.append_nil]
  have S1 := S.step t1
  refine spP_mk S1 r1 hn hF (fun v H' t r => q v H' (t1.trans t) r) fun y hy dd H' sm h0 hd => hE y hy dd H' ?_ ?_ hd
  · exact (S1.step (.same S1 sm)).end_
  · exact (S1.freshN h0).2
theorem ge_gn (h : GN X C Γ e (fun z => z = d)) : GE X C Γ e d := gx_imp h fun _ _ _ _ _ _ _ ⟨z, hz, r⟩ => by
  rw [← hz]; exact r
/-- data that names no object -/
def flatD : PyData → Bool
  | .list _ => false
  | .tuple _ => false
  | .dict _ => false
  | _ => true
theorem dp_flat {K : PySem.W.Frag} {H H' : Hp} {v : V} {d : PyData} (h : Dp K H v d) (f : flatD d = true) : Dp K H' v d := by
  cases h with
  | non => exact .non
  | bl b => exact .bl b
  | int i => exact .int i
  | str x => exact .str x
  | lst _ _ => cases f
  | tup _ _ => cases f
/-- arguments that may be read now -/
def rArgR (K : PySem.W.Frag) (ds : List PyData) : RelA := fun _ _ H' vs => DpAll K H' vs ds
end
/-- the context of a def that changes nothing of others' -/
def ct0 (H0 : Hp) (O0 : Addr → Prop) (E : XK) : Ct := ⟨H0, O0, fun _ _ => False, fun _ => True, E, fun _ _ _ h => h.elim, fun _ _ _ _ => trivial⟩
def slots0 (ds : List PyData) (m : Nat) : List Slot := ds.map Slot.dat ++ List.replicate (m - ds.length) Slot.any
theorem start_ok {K : PySem.W.Frag} {H : Hp} {O : Addr → Prop} {E : XK} {N : List Str} {vs : List V} {ds : List PyData} (hO : ∀ a, O a → NTd H a) (r : DpAll K (hid O H) vs ds) :
    StOk K (ct0 H O E) (slots0 ds N.length) (L2.start N vs) (List.replicate (L2.start N vs).length none) H := by
  have hl := dpAll_len r
  have nm : ∀ a, ¬ some a ∈ List.replicate (L2.start N vs).length (none : Option Addr) := fun a h => by
    have := List.eq_of_mem_replicate h
    cases this
  have eO : OO (ct0 H O E) (List.replicate (L2.start N vs).length none) = O := by
    funext a
    exact propext ⟨fun h => h.elim id fun z => (nm a z).elim, .inl⟩
  refine ⟨?_, by rw [List.length_replicate]; exact Nat.le_refl _, fun a h => (nm a h).elim, fun a o e _ => e, fun a e => e, hO, trivial, fun a h => (nm a h).elim, fun i j a e _ => (nm a (List.mem_of_getElem? e)).elim, fun i s e => ?_⟩
  · unfold slots0 L2.start
    simp only [List.length_append, List.length_map, List.length_replicate, hl]
  · rw [eO]
    unfold slots0 at e
    by_cases hi : i < ds.length
    · rw [List.getElem?_append_left (by rw [List.length_map]; exact hi), List.getElem?_map, List.getElem?_eq_getElem hi] at e
      have e' : Slot.dat ds[i] = s := Option.some.inj e
      subst e'
      obtain ⟨v, hv, dv⟩ := dpAll_get r (List.getElem?_eq_getElem hi)
      have e1 : (L2.start N vs)[i]? = some (some v) := by
        unfold L2.start
        rw [List.getElem?_append_left (by rw [List.length_map, hl]; exact hi), List.getElem?_map, hv]
        rfl
      have hlt := (List.getElem?_eq_some_iff.mp e1).1
      exact ⟨some v, none, e1, by rw [List.getElem?_replicate, if_pos hlt], rfl, v, rfl, dv⟩
    · rw [List.getElem?_append_right (by rw [List.length_map]; omega), List.length_map, List.getElem?_replicate] at e
      split at e
      · rename_i hlt
        have e' : Slot.any = s := Option.some.inj e
        subst e'
        have e1 : (L2.start N vs)[i]? = some none := by
          unfold L2.start
          rw [List.getElem?_append_right (by rw [List.length_map, hl]; omega), List.length_map, List.getElem?_replicate, hl, if_pos hlt]
        have hlt := (List.getElem?_eq_some_iff.mp e1).1
        exact ⟨none, none, e1, by rw [List.getElem?_replicate, if_pos hlt], rfl⟩
      · cases e
section
variable {P : Program} {w : World} {K : PySem.W.Frag} {mg : Str → Option Value} {base : Heap} {CB : Addr}
/-- what a body may lean on -/
structure Bd (X : Cx) (C : Ct) (CB : Addr) (k : Nat) (Qe : Str → Prop) : Prop where
  room : Room k X.A
  pass : Passes (L2.CX X.prog X.w) X C.E
  own : PassesOwn (model X.prog X.w) X.A X.env X.xe
  takes : Takes X (fun cls d _ H' => C.E cls d H')
  exc : ∀ x, Qe x → Exc C CB x
theorem def_ok {x qual : Str} {params : Arguments} {body : List Stmt} {scope : Scope} {f : Addr} {fd : FuncData} {N ps : List Str} {k n : Nat} {F : DSpec} (Fd : FunD K x qual params body scope [] [] f fd) (S : FnScope N ps scope) (hn : n = ps.length)
    (hb : ∀ (cdv : Value) (A : Around) (outer : List Env) (s : Shared) (H0 : Hp) (O0 : Addr → Prop) (E : XK) (ds : List PyData) (Qd : PyData → Prop) (Qe : Str → Prop), ds.length = n → F ds Qd Qe →
      Bd (cxOf (L2.CX P w) P w K mg base N qual scope f cdv A outer s H0 E) (ct0 H0 O0 E) CB k Qe →
      WS (cxOf (L2.CX P w) P w K mg base N qual scope f cdv A outer s H0 E) (ct0 H0 O0 E) (slots0 ds N.length) body ⟨fun _ => Qd .none, rtD K (ct0 H0 O0 E) Qd, fun _ => False, fun _ => False⟩) :
    FnOk P w K mg base (L2.CX P w) (k + 1) f fd ps (spP K CB n F) :=
  Fd.ok S (fun vs H Q E h => by
    obtain ⟨O, ds, Qd, Qe, _, h1, h2, _⟩ := h
    rw [dpAll_len h2, h1, hn]) fun cdv A outer s H vs Q E hr h => by
    obtain ⟨O, ds, Qd, Qe, hO, hl, r, hF, q, qe⟩ := h
    have tk : Takes (cxOf (L2.CX P w) P w K mg base N qual scope f cdv A outer s H E) (fun cls d _ H' => E cls d H') := takes_of rfl rfl rfl rfl
    have B : Bd (cxOf (L2.CX P w) P w K mg base N qual scope f cdv A outer s H E) (ct0 H O E) CB k Qe :=
      ⟨hr, passes_call tk fun _ _ _ _ z => z, passes_of rfl, tk, fun y hy dd H' en h0 hd => qe y hy dd H' (fun a o e => en.fr a o e fun z => z) (by
        cases z : H dd with
        | none => rfl
        | some o =>
          have y := en.fr dd o z fun z => z
          rw [hd] at y
          cases y
          exact (h0 ⟨_, z, trivial⟩).elim) hd⟩
    refine ⟨_, pss_can, fun pins s' I => ?_⟩
    refine wpAny_mono (hb cdv A outer s H O E ds Qd Qe hl hF B _ _ H (start_ok hO r) pins s' I) (fun fl s2 z => ?_) fun _ _ z => z
    cases fl with
    | next =>
      obtain ⟨σ', H', I', Γ', ps', S', _, z⟩ := z
      exact ⟨σ', H', I', q .none z .non H' (fun a o e => S'.fr a o e fun z => z) .non⟩
    | brk => obtain ⟨_, _, _, _, _, _, _, z⟩ := z; exact z.elim
    | cont => obtain ⟨_, _, _, _, _, _, _, z⟩ := z; exact z.elim
    | ret u =>
      obtain ⟨v, σ', H', I', rv, en, d, hd, dv⟩ := z
      exact ⟨v, σ', H', I', rv, q d hd v H' (fun a o e => en.fr a o e fun z => z) dv⟩
end
/-- what the written part says of the class at CB -/
structure BadOk (K : PySem.W.Frag) (mg : Str → Option Value) (CB fI : Addr) : Prop where
  g : mg "BadArgument" = some (.ref CB)
  ox : OexC K CB
  no : PySem.W.findIn K (.ref CB) "name" = some none
  iC : PySem.W.findIn K (.ref CB) "__init__" = some (some (.ref fI))
  tI : PySem.W.typeIn K (.ref fI) = some (.type "function")
  xf : XfC K CB
  em : PySem.W.exmOne K (.ref CB) (.ref CB) = some true
def spInit (CB : Addr) : Sp := fun vs H Q _ => ∃ (a : Addr) (v : V), vs = [.ref a, v] ∧ H a = some (exo a CB none) ∧ ∀ dx, H dx = none → dx ≠ a → Q .non (upd (upd H dx (exd dx [(("name" : Str), v)])) a (exo a CB (some dx)))
section
variable {P : Program} {w : World} {K : PySem.W.Frag} {mg : Str → Option Value} {base : Heap} {CB fI : Addr}
theorem init_ok {qual : Str} {params : Arguments} {scope : Scope} {fd : FuncData} {x : Str} {p1 p2 p3 p4 : Pos} (T : BadOk K mg CB fI) (Fd : FunD K x qual params [.Assign [.Attribute (.Name "self" p1) "name" p2] (.Name "name" p3) p4] scope [] [] fI fd) (S : FnScope ["self", "name"] ["self", "name"] scope)
    (hl1 : scope.names.lookup ("self" : Str) = some .local) (hl2 : scope.names.lookup ("name" : Str) = some .local) : FnOk P w K mg base (L2.CX P w) 1 fI fd ["self", "name"] (spInit CB) :=
  Fd.ok S (fun vs H Q E h => by obtain ⟨a, v, rfl, _⟩ := h; rfl) fun cdv A outer s H vs Q E hr h => by
    obtain ⟨a, v, rfl, ha, q⟩ := h
    refine ⟨_, pss_one (ps_ost (pe_var (i := 0) rfl (.inl hl1)) (pe_var (i := 1) rfl (.inl hl2))), ?_⟩
    refine ⟨v, rfl, .ref a, rfl, a, CB, rfl, T.ox, T.no, .inl ⟨ha, fun dx h1 h2 => q dx h1 h2⟩⟩
end
section
variable {X : Cx} {C : Ct} {Γ : List Slot} {e : Expr} {pos p p2 : Pos} {CB fI : Addr} {Q : PQ} {x : Str}
/-- raise BadArgument(e) -/
theorem w1_raise {k : Nat} {Qe : Str → Prop} {fd : FuncData} (hc : X.calm = true) (B : Bd X C CB (k + 2) Qe) (T : BadOk X.K X.mg CB fI) (F1 : FnOk X.prog X.w X.K X.mg X.base (L2.CX X.prog X.w) 1 fI fd ["self", "name"] (spInit CB)) (hb : Binds X.K fd ["self", "name"] [])
    (he : GE X C Γ e (.str x)) (hx : Exc C CB x) (hg : Gl X "BadArgument" := by rfl) (hs : starEach (e :: []) X.env = (false, eval e X.env) :: starEach [] X.env := by rfl) (hpl : (backTo pos (starEach [] X.env)).any (·.1) = false := by rfl) :
    W1 X C Γ (.Raise (some (.Call (.Name "BadArgument" p) [e] [] pos)) none p2) Q :=
  w1_of (ps_raise hc B.takes (pmk_oex (k := 1) T.ox T.iC T.tI F1 (B.room.mono (by omega)) hb .nil passL hg T.g (pa_cons pe_can pa_nil hs) (by decide) hs hpl)) fun σ ps H S => he σ ps H S _ fun v H1 t1 r1 => by
    have S1 := S.step t1
    rw [dp_str r1]
    refine ⟨by show 1 ≤ 1000; decide, fun a ha => ⟨a, .str x, rfl, upd_same, fun dx h1 h2 => ⟨rfl, dx, [(("name" : Str), V.str x)], upd_same, ?_, ?_, ?_⟩⟩⟩
    · rw [upd_ne h2, upd_same]
    · rw [upd_ne h2] at h1
      exact h1
    · have hdx : H1 dx = none := by
        rw [upd_ne h2] at h1
        exact h1
      have sm : Same H1 (upd (del (upd (upd (upd H1 a (exo a CB none)) dx (exd dx [(("name" : Str), .str x)])) a (exo a CB (some dx))) a) dx (.xd [(("name" : Str), .str x)])) := fun b o hb => by
        have n1 : b ≠ a := ne_of_none hb ha
        have n2 : b ≠ dx := ne_of_none hb hdx
        rw [upd_ne n2, del_ne n1, upd_ne n1, upd_ne n2, upd_ne n1]
        exact hb
      exact hx dx _ (S1.step (.same S1 sm)).end_ (S1.freshN hdx).2 upd_same
end
end Fw
namespace Fw
open PySem PySem.Spec PyProof.Rows L2
open AutoSeq1 (wpAny_loadPart')

theorem meets_enumerate_newT (l : Addr) (items : Array Value) (n : Nat) (dct : Option Addr) (sl : Array (Option Value)) :
    Meets (Builtin.«enumerate.__new__» ⟨[.type "enumerate", .ref l], []⟩) (fun _ R s => s.heap.get? l = some { cls := .type "tuple", dict := dct, data := .seq items n, slots := sl } ∧
      R (.ok (.ret (.ref (s.heap.push { cls := .type "tuple_iterator", data := .fields #[.ref l, .int 0 0] }).objs.size)))
        { s with heap := (s.heap.push { cls := .type "tuple_iterator", data := .fields #[.ref l, .int 0 0] }).push { cls := .type "enumerate", data := .fields #[.none, .bool false, .ref s.heap.objs.size, rawInt 0, .none, .none] } }) :=
  .of_wp fun prog w A R s h => by
    obtain ⟨hp, g, d, tk, os⟩ := s; obtain ⟨hl, h⟩ := h
    have hsub := sub_enumerate
    have hL : Heap.IsTuple (Shared.heap ⟨hp, g, d, tk, os⟩) l items := ⟨_, hl, rfl, n, rfl⟩
    wp_walk using wpAny_loadPart' hl
    refine wpAny_stack_any fun st => wpAny_pure ?_
    split
    · rename_i c _ _ _ _ _
      cases (c == Value.type "enumerate")
      · wp_walk using wpAny_loadPart' hl, wpAny_pyIter_tuple hL
        exact ⟨_, rfl, h⟩
      · wp_walk using wpAny_loadPart' hl, wpAny_pyIter_tuple hL
        exact ⟨_, rfl, h⟩
    · wp_walk using wpAny_loadPart' hl, wpAny_pyIter_tuple hL
      exact ⟨_, rfl, h⟩
theorem call_enumerate_tuple {prog : Program} {w : World} {A : Around} {E : Value → Shared → Prop} {s : Shared} {l : Addr} {items : Array Value} {Q : Value → Shared → Prop} (hL : s.heap.IsTuple l items)
    (h : ∀ h', IsEnum h' (s.heap.objs.size + 1) s.heap.objs.size 0 .none → h'.IsTupleIter s.heap.objs.size l 0 → h'.objs.size = s.heap.objs.size + 2 →
      (∀ b o, s.heap.get? b = some o → h'.get? b = some o) → Q (.ref (s.heap.objs.size + 1)) { s with heap := h' }) :
    wpAny (model prog w) A (call (.type "enumerate") [.ref l]) Q E s := by
  obtain ⟨⟨c, dct, dt, sl⟩, hl, hc, n, hd⟩ := hL
  replace hc : c = .type "tuple" := hc
  replace hd : dt = .seq items n := hd
  subst hc hd
  refine callType_new F.called_enumerate (by decide) (F.typeCall_enumerate_1 _) (F.newCall_enumerate_1 _) (fun obj => F.args_object_init_2 obj _) F.entry_enumerate_new
    (meets_enumerate_newT l items n dct sl) ⟨hl, ?_⟩
  have hz : (s.heap.push { cls := .type "tuple_iterator", data := .fields #[.ref l, .int 0 0] }).objs.size = s.heap.objs.size + 1 := Heap.size_push ..
  show _ ∧ _
  rw [hz]
  have he : IsEnum ((s.heap.push { cls := .type "tuple_iterator", data := .fields #[.ref l, .int 0 0] }).push
      { cls := .type "enumerate", data := .fields #[.none, .bool false, .ref s.heap.objs.size, rawInt 0, .none, .none] }) (s.heap.objs.size + 1) s.heap.objs.size 0 .none := by
    have := Heap.get?_push_size (s.heap.push { cls := .type "tuple_iterator", data := .fields #[.ref l, .int 0 0] })
      (o := { cls := .type "enumerate", data := .fields #[.none, .bool false, .ref s.heap.objs.size, rawInt 0, .none, .none] }) rfl
    rw [hz] at this; exact this
  refine ⟨⟨_, he, rfl⟩, h _ he ⟨_, Heap.get?_push_of_some _ (Heap.get?_push_size _ rfl), rfl, rfl⟩ (by rw [Heap.size_push, hz]) fun b o x => Heap.get?_push_of_some _ (Heap.get?_push_of_some _ x)⟩
theorem pyNext_enumT_end {prog : Program} {w : World} {A : Around} {E : Value → Shared → Prop} {s : Shared} {e it l : Addr} {i : Nat} {items : Array Value} {old : Value} {Q : Option Value → Shared → Prop} (hh : A.handled = none)
    (he : IsEnum s.heap e it i old) (hit : s.heap.IsTupleIter it l i) (hl : s.heap.IsTuple l items) (hx : items[i]? = none)
    (hQ : ∀ h', Heap.ExtBut it s.heap h' → Q none { s with heap := h' }) : wpAny (model prog w) A (pyNext (.ref e)) Q E s := by
  have hT : s.TypeIs (.ref e) "enumerate" := ⟨_, he, rfl⟩
  unfold pyNext
  refine wpAny_bind (wpAny_attempt (wpAny_callSpecial?_slot (name := Str.ofString "__next__") hT F.slot_enumerate_next
    (wpAny_call_entry F.slot_enumerate_next hT F.entry_enumerate_next ?_ (F.args_enumerate_next_1 _))))
  show wpAny _ _ (field (.ref e) 2 >>= _) _ _ _
  refine wpAny_bind (wpAny_field he rfl (x := .ref it) rfl ?_)
  refine wpAny_bind (wpAny_nextOf_tuple_end hh hit hl hx fun h' x he' hx' => ?_)
  obtain ⟨o, ho, hc⟩ := hx'
  refine wpAny_bind (wpAny_isInstance (T := "StopIteration") (b := true) ⟨o, ho, hc⟩ isSubtype_stop ?_)
  exact wpAny_pure (hQ _ he')
def IteT (K : PySem.W.Frag) (a : Addr) : It :=
  ⟨fun i H => ∃ (xs : List V) (x : V), SqT K H a xs ∧ xs[i]? = some x, fun i H v H' => ∃ T x, v = .ref T ∧ H T = none ∧ H' = upd H T (.tup [.int (i : Nat), x]) ∧ ∀ xs, SqT K H a xs → xs[i]? = some x, fun i H => ∃ xs : List V, SqT K H a xs ∧ xs.length ≤ i⟩
theorem turn_enumT {P : Program} {w : World} {K : PySem.W.Frag} {elts : List Expr} {kk : Nat} {tpos : Pos} (a e it : Addr) :
    Turn P w K (.Tuple elts kk tpos) (IteT K a) [e, it] e (fun i h => (∃ old, IsEnum h e it ((i : Nat) : Int) old) ∧ h.IsTupleIter it a i ∧ e ≠ it) where
  mem := by simp
  obj := fun i h st b hb => by
    obtain ⟨⟨old, he⟩, ⟨o, ho, hc, hd⟩, _⟩ := st
    have e' : b = e ∨ b = it := by simpa using hb
    rcases e' with z | z
    · rw [z]; exact ⟨_, he, fun v q => nomatch q⟩
    · rw [z]; exact ⟨o, ho, fun v q => by rw [hd] at q; cases q⟩
  keep := fun i h h' st k => let ⟨⟨old, he⟩, hi, hne⟩ := st; ⟨⟨old, k e (by simp) _ he⟩, hi.at fun o q => k it (by simp) o q, hne⟩
  item := by
    intro X hP hw hK hc i pins s σ H E I hf st hg
    subst hP hw hK
    obtain ⟨⟨old, he⟩, hit, hne⟩ := st
    obtain ⟨xs, x, hq, hx⟩ := hg
    obtain ⟨its, rv, p, hz⟩ := I.tuple hq
    have hlen := rv.length
    have hlt : i < its.toArray.size := by
      have := (List.getElem?_eq_some_iff.mp hx).1
      simp only [List.size_toArray]
      omega
    obtain ⟨o1, ho1, hc1, hd1⟩ := id p
    have nai : a ≠ it := fun z => by
      obtain ⟨o2, ho2, hc2, _⟩ := hit
      rw [z, ho2] at ho1
      cases ho1
      rw [hc1] at hc2
      exact absurd hc2 (by decide)
    have nae : a ≠ e := fun z => by
      have he' : s.heap.get? e = some _ := he
      rw [z, he'] at ho1
      cases ho1
      have hc2 : Value.type "enumerate" = Value.type "tuple" := hc1
      exact absurd hc2 (by decide)
    have D := Draws.tuple (prog := X.prog) (w := X.w) (A := X.A.in1) (I.ok.hd hc) it a nai its.toArray
    have hel : e < s.heap.objs.size := Heap.lt_size he
    have hil : it < s.heap.objs.size := by obtain ⟨_, q, _⟩ := hit; exact Heap.lt_size q
    refine wpAny_pyNext_enum_itemD D he ⟨hit, p⟩ hlt hne (by simp [hne, Ne.symm nae]) fun u h' tk hu ho hit' hT hsz hk => ?_
    obtain ⟨u', hu', ru⟩ := rv.get hx
    have eu : u = u' := by
      have h1 : its[i]? = some u := by simpa using hu
      rw [hu'] at h1
      exact (Option.some.inj h1).symm
    subst eu
    refine ⟨_, rfl, wpAny_letOwnedTupleGo_enum (s := { s with heap := h', toks := tk + 1 }) ho fun h'' he' sb => ?_⟩
    have hT2 : h''.get? s.heap.objs.size = some { cls := .type "tuple", data := .seq #[.int i tk, u] } := (sb.2 _ (Nat.ne_of_gt hel)).trans hT
    have new : ObjOk X.prog X.w (upd H s.heap.objs.size (.tup [.int (i : Nat), x])) h'' s.heap.objs.size (.tup [.int (i : Nat), x]) :=
      ⟨by show 2 ≤ sizeLine; decide, [.int i tk, u], .cons ⟨_, rfl⟩ (.cons ru .nil), ⟨_, hT2, rfl, _, rfl⟩⟩
    have I1 : Inv X pins σ (upd H s.heap.objs.size (.tup [.int (i : Nat), x])) { s with heap := h'', toks := tk + 1 } :=
      I.turnedNew (ch := [e, it]) (fun b ob hb q => (sb.2 b (fun z => hb (by simp [z]))).trans (hk b ob (fun z => hb (by simp [z])) (fun z => hb (by simp [z])) q)) hf (Nat.le_refl _) new
    refine ⟨.ref s.heap.objs.size, _, I1, rfl, ⟨_, x, rfl, I.hok.fresh (Nat.le_refl _), rfl, fun ys hy => by rw [I.tuple_inj hy hq]; exact hx⟩, ⟨⟨u, ?_⟩, hit'.1.at fun o q => (sb.2 it (Ne.symm hne)).trans q, hne⟩, fun b hb => ?_⟩
    · have e1 : ((i + 1 : Nat) : Int) = (i : Int) + 1 := by omega
      rw [e1]; exact he'
    · have hb' : b < s.heap.objs.size := by
        have e' : b = e ∨ b = it := by simpa using hb
        rcases e' with z | z
        · rw [z]; exact hel
        · rw [z]; exact hil
      rw [upd_ne (Nat.ne_of_lt hb')]
      exact (hf b hb).1
  done := by
    intro X hP hw hK hc i pins s σ H E I hf st hg
    subst hP hw hK
    obtain ⟨⟨old, he⟩, hit, hne⟩ := st
    obtain ⟨xs, hq, hx⟩ := hg
    obtain ⟨its, rv, p, hz⟩ := I.tuple hq
    obtain ⟨f0, f1, f2, f3, f4, f5⟩ := hf it (by simp)
    have hl := rv.length
    exact pyNext_enumT_end (I.ok.hd hc) he hit p (by simp; omega) fun h' eb => ⟨rfl, I.turned (t' := s.toks) (fun b o hb q => eb b o hb q) f0 f1 f3 f4 f5⟩
  self := fun A i s Q E st h => let ⟨⟨_, he⟩, _⟩ := st; wpAny_pyIter_enum he h
def iEnumT (K : PySem.W.Frag) (ta : TA) : TI := fun σ H R => ta σ H fun vs H1 => ∃ a xs, vs = [.ref a] ∧ SqT K H1 a xs ∧ R (IteT K a) H1
theorem pi_enumT {X : Cx} {e : Expr} {ta : TA} {p pos tpos : Pos} {elts : List Expr} {kk : Nat} (hg : Gl X "enumerate") (hm : X.mg "enumerate" = none) (ha : PA X [e] ta) (hs : starEach [e] X.env = [(false, eval e X.env)] := by rfl) :
    PI X (.Tuple elts kk tpos) (.Call (.Name "enumerate" p) [e] [] pos) (iEnumT X.K ta) := by
  refine ⟨fun pins s σ H R I h => ?_⟩
  refine Call_ (ld_blt I hg hm boot_enumerate (PyProof.Rows.callWith_type1 (thn (ha.run pos pins s σ H _ I h) fun us s1 ⟨vs, H1, I1, r1, q1⟩ => ?_) hs rfl))
  obtain ⟨a, xs, ex, hq, q⟩ := q1
  subst ex
  cases r1 with
  | cons r rr =>
    cases rr
    cases r
    obtain ⟨its, rv, p', hz⟩ := I1.tuple hq
    refine call_enumerate_tuple p' fun h' he hit hsz hk => wpAny_pyIter_enum he ?_
    have I2 : Inv X pins σ H1 { s1 with heap := h' } := I1.kept (t' := s1.toks) hk
    refine ⟨s1.heap.objs.size + 1, [s1.heap.objs.size + 1, s1.heap.objs.size], _, _, H1, rfl, I2, turn_enumT a (s1.heap.objs.size + 1) s1.heap.objs.size, ⟨⟨.none, he⟩, hit, Nat.succ_ne_self _⟩, fun b hb => ?_, q⟩
    have e' : b = s1.heap.objs.size + 1 ∨ b = s1.heap.objs.size := by simpa using hb
    have hle : s1.heap.objs.size ≤ b := by
      rcases e' with z | z
      · rw [z]; exact Nat.le_add_right _ _
      · rw [z]; exact Nat.le_refl _
    exact I1.fpOk hle (I1.hok.fresh hle)

section
variable {X : Cx} {C : Ct} {Γ Γ' Γ2 : List Slot} {e a b tg iter : Expr} {d : PyData} {pos p tpos : Pos} {ds es : List PyData} {elts : List Expr} {kk : Nat} {α β : Type}
theorem gi_cast (h : GI X C Γ tg iter ds) (q : ds = es) : GI X C Γ tg iter es := q ▸ h
theorem zipIdx_get {α : Type} {xs : List α} {i : Nat} : (xs.zipIdx)[i]? = (xs[i]?).map fun x => (x, i) := by
  rw [List.getElem?_zipIdx]
  simp
theorem pair_ok {K : PySem.W.Frag} {G H2 : Hp} {O' : Addr → Prop} {T : Addr} {x y : V} {d1 d2 : PyData} (hn : H2 T = none) (hO : ∀ a, O' a → NTd H2 a) (sub : Same G (hid O' H2)) (h1 : Dp K G x d1) (h2 : Dp K G y d2) : Dp K (hid O' (upd H2 T (.tup [x, y]))) (.ref T) (.tuple [d1, d2]) := by
  have m : Same (hid O' H2) (hid O' (upd H2 T (.tup [x, y]))) := hid_new hn
  refine Dp.tup (.inl (.inl ?_)) (.cons (dp_mono m (dp_mono sub h1)) (.cons (dp_mono m (dp_mono sub h2)) .nil))
  exact hid_is (fun z => ntd_none hn (hO T z)) upd_same trivial
theorem gi_enumT {xs : List α} {f : α → PyData} (hm : X.mg "enumerate" = none) (h : GE X C Γ e (.tuple (xs.map f))) (hg : Gl X "enumerate" := by rfl) (hs : starEach [e] X.env = [(false, eval e X.env)] := by rfl) :
    GI X C Γ (.Tuple elts kk tpos) (.Call (.Name "enumerate" p) [e] [] pos) (xs.zipIdx.map fun q => PyData.tuple [.int (q.2 : Nat), f q.1]) :=
  gi_of (pi_enumT hg hm (pa_cons pe_can pa_nil hs) hs) fun σ ps H S R q => h σ ps H S _ fun v H1 t1 r1 => by
    obtain ⟨a, vs, rfl, h1, h2⟩ := dp_tuple r1
    refine ⟨a, vs, rfl, seqT_hid h1, q _ H1 t1 fun O' H2 k1 k2 k3 => ?_⟩
    have sub := yld_keep k1 k2
    have g1 : SqT X.K H2 a vs := seqT_hid (seqT_mono sub h1)
    have hl := dpAll_len h2
    rw [List.length_map] at hl
    refine ⟨fun i d e => ?_, vs, g1, by rw [List.length_map, List.length_zipIdx]; exact Nat.le_of_eq hl⟩
    rw [List.getElem?_map, zipIdx_get] at e
    cases q : xs[i]? with
    | none => rw [q] at e; cases e
    | some x =>
      rw [q] at e
      have e' : PyData.tuple [.int (i : Nat), f x] = d := Option.some.inj e
      subst e'
      obtain ⟨v, e1, e2⟩ := dpAll_get h2 (i := i) (d := f x) (by rw [List.getElem?_map, q]; rfl)
      refine ⟨⟨vs, v, g1, e1⟩, fun y H3 z => ?_⟩
      obtain ⟨T, x', rfl, hT, rfl, z⟩ := z
      have e3 := z vs g1
      rw [e1] at e3
      cases e3
      exact ⟨same_new hT, pair_ok hT k3 sub (.int _) e2⟩
theorem gi_enumL {xs : List α} {f : α → PyData} (hm : X.mg "enumerate" = none) (h : GE X C Γ e (.list (xs.map f))) (hg : Gl X "enumerate" := by rfl) (hs : starEach [e] X.env = [(false, eval e X.env)] := by rfl) :
    GI X C Γ (.Tuple elts kk tpos) (.Call (.Name "enumerate" p) [e] [] pos) (xs.zipIdx.map fun q => PyData.tuple [.int (q.2 : Nat), f q.1]) :=
  gi_of (pi_enum hg hm (pa_cons pe_can pa_nil hs) hs) fun σ ps H S R q => h σ ps H S _ fun v H1 t1 r1 => by
    obtain ⟨a, vs, rfl, h1, h2⟩ := dp_list r1
    refine ⟨a, vs, rfl, Same.seq hid_sub h1, q _ H1 t1 fun O' H2 k1 k2 k3 => ?_⟩
    have sub := yld_keep k1 k2
    have g1 : SqL X.K H2 a vs := Same.seq hid_sub (Same.seq sub h1)
    have hl := dpAll_len h2
    rw [List.length_map] at hl
    refine ⟨fun i d e => ?_, vs, g1, by rw [List.length_map, List.length_zipIdx]; exact Nat.le_of_eq hl⟩
    rw [List.getElem?_map, zipIdx_get] at e
    cases q : xs[i]? with
    | none => rw [q] at e; cases e
    | some x =>
      rw [q] at e
      have e' : PyData.tuple [.int (i : Nat), f x] = d := Option.some.inj e
      subst e'
      obtain ⟨v, e1, e2⟩ := dpAll_get h2 (i := i) (d := f x) (by rw [List.getElem?_map, q]; rfl)
      refine ⟨⟨vs, v, g1, e1⟩, fun y H3 z => ?_⟩
      obtain ⟨T, x', rfl, hT, rfl, z⟩ := z
      have e3 := z vs g1
      rw [e1] at e3
      cases e3
      exact ⟨same_new hT, pair_ok hT k3 sub (.int _) e2⟩
theorem zip_get {xs : List α} {ys : List β} {i : Nat} {x : α} {y : β} (h : (xs.zip ys)[i]? = some (x, y)) : xs[i]? = some x ∧ ys[i]? = some y := by
  rw [List.getElem?_zip_eq_some] at h
  exact h
theorem gi_zipL {xs : List α} {ys : List β} {f : α → PyData} {g : β → PyData} (hm : X.mg "zip" = none) (h1 : GE X C Γ a (.list (xs.map f))) (h2 : GE X C Γ b (.list (ys.map g))) (hg : Gl X "zip" := by rfl)
    (hs : starEach [a, b] X.env = (false, eval a X.env) :: starEach [b] X.env := by rfl) (hs2 : starEach [b] X.env = (false, eval b X.env) :: starEach [] X.env := by rfl) {t : TI} (hp : PI X (.Tuple elts kk tpos) (.Call (.Name "zip" p) [a, b] [] pos) t) (ht : t = iZip X.K (tCons (tcan X a) (tCons (tcan X b) tNil))) :
    GI X C Γ (.Tuple elts kk tpos) (.Call (.Name "zip" p) [a, b] [] pos) ((xs.zip ys).map fun q => PyData.tuple [f q.1, g q.2]) :=
  gi_of hp fun σ ps H S R q => by
    rw [ht]
    refine h1 σ ps H S _ fun v H1 t1 r1 => h2 σ ps H1 (S.step t1) _ fun u H2 t2 r2 => ?_
    obtain ⟨a1, v1, rfl, k1, k2⟩ := dp_list (dp_mono t2.hid r1)
    obtain ⟨a2, v2, rfl, l1, l2⟩ := dp_list r2
    refine ⟨a1, a2, v1, v2, rfl, Same.seq hid_sub k1, Same.seq hid_sub l1, q _ H2 (t1.trans t2) fun O' H3 m1 m2 m3 => ?_⟩
    have sub := yld_keep m1 m2
    have g1 : SqL X.K H3 a1 v1 := Same.seq hid_sub (Same.seq sub k1)
    have g2 : SqL X.K H3 a2 v2 := Same.seq hid_sub (Same.seq sub l1)
    have n1 := dpAll_len k2
    have n2 := dpAll_len l2
    rw [List.length_map] at n1 n2
    refine ⟨fun i d e => ?_, v1, v2, g1, g2, ?_⟩
    · rw [List.getElem?_map] at e
      cases q : (xs.zip ys)[i]? with
      | none => rw [q] at e; cases e
      | some xy =>
        obtain ⟨x, y⟩ := xy
        rw [q] at e
        have e' : PyData.tuple [f x, g y] = d := Option.some.inj e
        subst e'
        obtain ⟨q1, q2⟩ := zip_get q
        obtain ⟨w1, e1, e2⟩ := dpAll_get k2 (i := i) (d := f x) (by rw [List.getElem?_map, q1]; rfl)
        obtain ⟨w2, e3, e4⟩ := dpAll_get l2 (i := i) (d := g y) (by rw [List.getElem?_map, q2]; rfl)
        refine ⟨⟨v1, v2, w1, w2, g1, g2, e1, e3⟩, fun y' H4 z => ?_⟩
        obtain ⟨T, x', y'', rfl, hT, rfl, z1, z2⟩ := z
        have f1 := z1 v1 g1
        rw [e1] at f1
        cases f1
        have f2 := z2 v2 g2
        rw [e3] at f2
        cases f2
        exact ⟨same_new hT, pair_ok hT m3 sub e2 e4⟩
    · rw [List.length_map, List.length_zip]
      omega
theorem gi_zipT {xs : List α} {ys : List β} {f : α → PyData} {g : β → PyData} (hm : X.mg "zip" = none) (h1 : GE X C Γ a (.tuple (xs.map f))) (h2 : GE X C Γ b (.tuple (ys.map g))) (hg : Gl X "zip" := by rfl)
    {t : TI} (hp : PI X (.Tuple elts kk tpos) (.Call (.Name "zip" p) [a, b] [] pos) t) (ht : t = RZ.iZipA X.K (tCons (tcan X a) (tCons (tcan X b) tNil))) :
    GI X C Γ (.Tuple elts kk tpos) (.Call (.Name "zip" p) [a, b] [] pos) ((xs.zip ys).map fun q => PyData.tuple [f q.1, g q.2]) :=
  gi_of hp fun σ ps H S R q => by
    rw [ht]
    refine h1 σ ps H S _ fun v H1 t1 r1 => h2 σ ps H1 (S.step t1) _ fun u H2 t2 r2 => ?_
    obtain ⟨a1, v1, rfl, k1, k2⟩ := dp_tuple (dp_mono t2.hid r1)
    obtain ⟨a2, v2, rfl, l1, l2⟩ := dp_tuple r2
    refine ⟨a1, a2, v1, v2, rfl, .inr ⟨seqT_hid k1, seqT_hid l1, q _ H2 (t1.trans t2) fun O' H3 m1 m2 m3 => ?_⟩⟩
    have sub := yld_keep m1 m2
    have g1 : SqT X.K H3 a1 v1 := seqT_hid (seqT_mono sub k1)
    have g2 : SqT X.K H3 a2 v2 := seqT_hid (seqT_mono sub l1)
    have n1 := dpAll_len k2
    have n2 := dpAll_len l2
    rw [List.length_map] at n1 n2
    refine ⟨fun i d e => ?_, v1, v2, g1, g2, ?_⟩
    · rw [List.getElem?_map] at e
      cases q : (xs.zip ys)[i]? with
      | none => rw [q] at e; cases e
      | some xy =>
        obtain ⟨x, y⟩ := xy
        rw [q] at e
        have e' : PyData.tuple [f x, g y] = d := Option.some.inj e
        subst e'
        obtain ⟨q1, q2⟩ := zip_get q
        obtain ⟨w1, e1, e2⟩ := dpAll_get k2 (i := i) (d := f x) (by rw [List.getElem?_map, q1]; rfl)
        obtain ⟨w2, e3, e4⟩ := dpAll_get l2 (i := i) (d := g y) (by rw [List.getElem?_map, q2]; rfl)
        refine ⟨⟨v1, v2, w1, w2, g1, g2, e1, e3⟩, fun y' H4 z => ?_⟩
        obtain ⟨T, x', y'', rfl, hT, rfl, z1, z2⟩ := z
        have f1 := z1 v1 g1
        rw [e1] at f1
        cases f1
        have f2 := z2 v2 g2
        rw [e3] at f2
        cases f2
        exact ⟨same_new hT, pair_ok hT m3 sub e2 e4⟩
    · rw [List.length_map, List.length_zip]
      omega
end
section
variable {X : Cx} {C : Ct} {Γ : List Slot} {elt tg iter c : Expr} {scope : Scope} {pos : Pos} {α : Type} {own : List (Str × Nat)} {xs : List α} {f : α → PyData} {Γt : α → List Slot} {is : List Nat}
/-- [elt for tg in iter] -/
theorem gl_map {g : α → PyData} (own : List (Str × Nat)) (hc : X.calm = true) (hN : X.N.Nodup) (hi : GI X C Γ tg iter (xs.map f)) (hz : xs.length ≤ 1000000)
    (hg : ∀ x ∈ xs, Blks X scope fun Y => GG Y C (wipeG Γ (own.map (·.2))) tg (f x) (Γt x) is) (he : ∀ x ∈ xs, Blks X scope fun Y => GE Y C (Γt x) elt (g x))
    (ok : BlkOk X.N X.env.scope scope own := by exact blkOk_by (by kernel_rfl)) (hv : notOwns Γ (own.map (·.2)) = true := by rfl) (his : is.all (fun i => (own.map (·.2)).contains i) = true := by rfl) (hs : ∀ x, foldedSetIterable iter X.env x = pure x := by intro _; rfl) :
    GL X C Γ (.ListComp elt [⟨tg, iter, [], 0⟩] scope pos) (xs.map g) := by
  have h := gl_lc (p := fun _ => true) (own := own) hc hN hi hz hg (fun x _ s H Cc cl fp => gts_nil) (fun x hx _ => he x hx) (pos := pos) ok hv his hs
  have e : (xs.filter fun _ => true) = xs := List.filter_eq_self.mpr fun _ _ => rfl
  rw [e] at h
  exact h
theorem gl_mapB {g : α → Bool} (own : List (Str × Nat)) (hc : X.calm = true) (hN : X.N.Nodup) (hi : GI X C Γ tg iter (xs.map f)) (hz : xs.length ≤ 1000000)
    (hg : ∀ x ∈ xs, Blks X scope fun Y => GG Y C (wipeG Γ (own.map (·.2))) tg (f x) (Γt x) is) (he : ∀ x ∈ xs, Blks X scope fun Y => GE Y C (Γt x) elt (.bool (g x)))
    (ok : BlkOk X.N X.env.scope scope own := by exact blkOk_by (by kernel_rfl)) (hv : notOwns Γ (own.map (·.2)) = true := by rfl) (his : is.all (fun i => (own.map (·.2)).contains i) = true := by rfl) (hs : ∀ x, foldedSetIterable iter X.env x = pure x := by intro _; rfl) :
    GL X C Γ (.ListComp elt [⟨tg, iter, [], 0⟩] scope pos) ((xs.map g).map .bool) := by
  have h := gl_map (g := fun x => .bool (g x)) own hc hN hi hz hg he (pos := pos) ok hv his hs
  rw [List.map_map]
  exact h
theorem gl_mapI {g : α → Int} (own : List (Str × Nat)) (hc : X.calm = true) (hN : X.N.Nodup) (hi : GI X C Γ tg iter (xs.map f)) (hz : xs.length ≤ 1000000)
    (hg : ∀ x ∈ xs, Blks X scope fun Y => GG Y C (wipeG Γ (own.map (·.2))) tg (f x) (Γt x) is) (he : ∀ x ∈ xs, Blks X scope fun Y => GE Y C (Γt x) elt (.int (g x)))
    (ok : BlkOk X.N X.env.scope scope own := by exact blkOk_by (by kernel_rfl)) (hv : notOwns Γ (own.map (·.2)) = true := by rfl) (his : is.all (fun i => (own.map (·.2)).contains i) = true := by rfl) (hs : ∀ x, foldedSetIterable iter X.env x = pure x := by intro _; rfl) :
    GL X C Γ (.ListComp elt [⟨tg, iter, [], 0⟩] scope pos) ((xs.map g).map .int) := by
  have h := gl_map (g := fun x => .int (g x)) own hc hN hi hz hg he (pos := pos) ok hv his hs
  rw [List.map_map]
  exact h
/-- [elt for tg in iter if c] -/
theorem gl_fil {p : α → Bool} {g : α → PyData} (own : List (Str × Nat)) (hc : X.calm = true) (hN : X.N.Nodup) (hi : GI X C Γ tg iter (xs.map f)) (hz : xs.length ≤ 1000000)
    (hg : ∀ x ∈ xs, Blks X scope fun Y => GG Y C (wipeG Γ (own.map (·.2))) tg (f x) (Γt x) is) (ht : ∀ x ∈ xs, Blks X scope fun Y => GT Y C (Γt x) c (p x)) (he : ∀ x ∈ xs, p x = true → Blks X scope fun Y => GE Y C (Γt x) elt (g x))
    (ok : BlkOk X.N X.env.scope scope own := by exact blkOk_by (by kernel_rfl)) (hv : notOwns Γ (own.map (·.2)) = true := by rfl) (his : is.all (fun i => (own.map (·.2)).contains i) = true := by rfl) (hs : ∀ x, foldedSetIterable iter X.env x = pure x := by intro _; rfl) :
    GL X C Γ (.ListComp elt [⟨tg, iter, [c], 0⟩] scope pos) ((xs.filter p).map g) :=
  gl_lc (own := own) hc hN hi hz hg (fun x hx s H Cc cl fp => gts_one (ht x hx s H Cc cl fp)) he ok hv his hs
theorem gl_filI {p : α → Bool} {g : α → Int} (own : List (Str × Nat)) (hc : X.calm = true) (hN : X.N.Nodup) (hi : GI X C Γ tg iter (xs.map f)) (hz : xs.length ≤ 1000000)
    (hg : ∀ x ∈ xs, Blks X scope fun Y => GG Y C (wipeG Γ (own.map (·.2))) tg (f x) (Γt x) is) (ht : ∀ x ∈ xs, Blks X scope fun Y => GT Y C (Γt x) c (p x)) (he : ∀ x ∈ xs, p x = true → Blks X scope fun Y => GE Y C (Γt x) elt (.int (g x)))
    (ok : BlkOk X.N X.env.scope scope own := by exact blkOk_by (by kernel_rfl)) (hv : notOwns Γ (own.map (·.2)) = true := by rfl) (his : is.all (fun i => (own.map (·.2)).contains i) = true := by rfl) (hs : ∀ x, foldedSetIterable iter X.env x = pure x := by intro _; rfl) :
    GL X C Γ (.ListComp elt [⟨tg, iter, [c], 0⟩] scope pos) (((xs.filter p).map g).map .int) := by
  have h := gl_fil (g := fun x => .int (g x)) own hc hN hi hz hg ht he (pos := pos) ok hv his hs
  rw [List.map_map]
  exact h
end
end Fw
namespace Fw
open PySem PySem.Spec PyProof.Rows L2

/-- a value that is to be stored: a datum, or a new object -/
inductive Pv where
  | dat (d : PyData)
  | obj (w : Own)
def Pv.slot : Pv → Slot
  | .dat d => .dat d
  | .obj w => .own w
def PvOk (K : PySem.W.Frag) (G H : Hp) : Pv → V → Option Addr → Prop
  | .dat d, v, p => p = none ∧ Dp K G v d
  | .obj w, v, p => ∃ a u, p = some a ∧ v = .ref a ∧ H a = some u ∧ OwnOk K G w u
section
variable {K : PySem.W.Frag} {C : Ct} {Γ : List Slot} {σ : L2.St} {ps ps' : List (Option Addr)} {H H' : Hp}
/-- a new object of no slot is owned -/
theorem StOk.ext (S : StOk K C Γ σ ps H) (t : Stp C H H') {D : Addr} {u : HO} (hn : ¬ NTd H D) (hD : H' D = some u) (nu : NT u := by trivial) : StOk K C Γ σ (ps ++ [some D]) H' := by
  have f := S.fresh hn
  have S1 := S.step t
  have nps : some D ∉ ps := fun z => f.1 (.inr z)
  have mem : ∀ b, some b ∈ ps ++ [some D] → some b ∈ ps ∨ b = D := fun b hm => by
    rcases List.mem_append.mp hm with z | z
    · exact .inl z
    · right; simpa using z
  refine ⟨S1.l1, Nat.le_trans S1.l2 (by rw [List.length_append]; omega), fun b hm => ?_, S1.fr, S1.dom, S1.od, S1.inv, fun b hm => ?_, fun i j b e1 e2 => ?_, fun i s e => ?_⟩
  · rcases mem b hm with z | z
    · exact S1.th b z
    · rw [z]; exact ⟨u, hD, nu⟩
  · rcases mem b hm with z | z
    · exact S.new b z
    · rw [z]; exact f.2
  · have key : ∀ {i : Nat}, (ps ++ [some D])[i]? = some (some b) → ps[i]? = some (some b) ∨ (i = ps.length ∧ b = D) := fun {i} e => by
      rw [List.getElem?_append] at e
      split at e
      · exact .inl e
      · right
        have hlt := (List.getElem?_eq_some_iff.mp e).1
        have : i - ps.length = 0 := by simpa using hlt
        rw [this] at e
        refine ⟨by omega, ?_⟩
        have e' : some D = some b := Option.some.inj e
        exact (Option.some.inj e').symm
    rcases key e1 with z1 | ⟨z1, y1⟩ <;> rcases key e2 with z2 | ⟨z2, y2⟩
    · exact S.inj i j b z1 z2
    · rw [y2] at z1; exact absurd (List.mem_of_getElem? z1) nps
    · rw [y1] at z2; exact absurd (List.mem_of_getElem? z2) nps
    · rw [z1, z2]
  · obtain ⟨o, p, e1, e2, r⟩ := S.sl i s e
    have sub : Same (hid (OO C ps) H) (hid (OO C (ps ++ [some D])) H') := hid_sameN fun a v nt n q => by
      refine ⟨fun z => ?_, t.fr a v q fun z => n (.inl (C.MO a v nt z))⟩
      rcases z with z | z
      · exact n (.inl z)
      · rcases mem a z with z | z
        · exact n (.inr z)
        · exact hn (by rw [← z]; exact ⟨v, q, nt⟩)
    refine ⟨o, p, e1, by rw [List.getElem?_append_left (List.getElem?_eq_some_iff.mp e2).1]; exact e2, ?_⟩
    cases s with
    | any => exact r
    | dat d => obtain ⟨r1, v, r2, r3⟩ := r; exact ⟨r1, v, r2, dp_mono sub r3⟩
    | raw v => exact r
    | own w =>
      obtain ⟨a, q, r1, r2, r3, r4⟩ := r
      subst r1
      exact ⟨a, q, rfl, r2, t.fr a q r3 (S.noM (List.mem_of_getElem? e2) (own_nt r4)), own_mono sub r4⟩
/-- an owned object of no slot goes to slot i -/
theorem StOk.claim {i k : Nat} {a : Addr} {u : HO} {w : Own} (S : StOk K C Γ σ ps H) (hk : σ.length ≤ k) (hp : ps[k]? = some (some a)) (ha : H a = some u) (hw : OwnOk K (hid (OO C ps) H) w u) (hi : i < σ.length) :
    StOk K C (Γ.set i (.own w)) (σ.set i (some (.ref a))) ((ps.set k none).set i (some a)) H := by
  have hik : i ≠ k := by omega
  have hlk : k < ps.length := (List.getElem?_eq_some_iff.mp hp).1
  have nk : ∀ j, j ≠ k → ps[j]? ≠ some (some a) := fun j hj z => hj (S.inj j k a z hp)
  have mem : ∀ b, some b ∈ (ps.set k none).set i (some a) → some b ∈ ps := fun b hm => by
    rcases List.mem_or_eq_of_mem_set hm with z | z
    · exact mem_set_none z
    · cases z; exact List.mem_of_getElem? hp
  have sub : Same (hid (OO C ps) H) (hid (OO C ((ps.set k none).set i (some a))) H) := hid_less mem
  refine ⟨by rw [List.length_set, List.length_set]; exact S.l1, by rw [List.length_set, List.length_set, List.length_set]; exact S.l2, fun b h => S.th b (mem b h), S.fr, S.dom, S.od, S.inv, fun b h => S.new b (mem b h), fun j l b e1 e2 => ?_, fun j s e => ?_⟩
  · have key : ∀ {j : Nat}, ((ps.set k none).set i (some a))[j]? = some (some b) → (j = i ∧ b = a) ∨ (j ≠ i ∧ j ≠ k ∧ ps[j]? = some (some b)) := fun {j} e => by
      by_cases q : i = j
      · subst q
        rw [List.getElem?_set_self (by rw [List.length_set]; omega)] at e
        cases e
        exact .inl ⟨rfl, rfl⟩
      · rw [List.getElem?_set_ne q] at e
        by_cases q2 : k = j
        · subst q2
          rw [List.getElem?_set_self hlk] at e
          cases e
        · rw [List.getElem?_set_ne q2] at e
          exact .inr ⟨fun z => q z.symm, fun z => q2 z.symm, e⟩
    rcases key e1 with ⟨q1, q2⟩ | ⟨q1, q1', q2⟩ <;> rcases key e2 with ⟨r1, r2⟩ | ⟨r1, r1', r2⟩
    · rw [q1, r1]
    · rw [q2] at r2; exact absurd r2 (nk l r1')
    · rw [r2] at q2; exact absurd q2 (nk j q1')
    · exact S.inj j l b q2 r2
  · by_cases q : i = j
    · subst q
      have hlt : i < Γ.length := by rw [S.l1]; exact hi
      rw [List.getElem?_set_self hlt] at e
      cases e
      exact ⟨_, _, List.getElem?_set_self hi, List.getElem?_set_self (by rw [List.length_set]; omega), a, u, rfl, rfl, ha, own_mono sub hw⟩
    · rw [List.getElem?_set_ne q] at e
      obtain ⟨o, p, e1, e2, r⟩ := S.sl j s e
      have hjk : k ≠ j := by
        have := (List.getElem?_eq_some_iff.mp e1).1
        omega
      refine ⟨o, p, by rw [List.getElem?_set_ne q]; exact e1, by rw [List.getElem?_set_ne q, List.getElem?_set_ne hjk]; exact e2, ?_⟩
      cases s with
      | any => exact r
      | dat d => obtain ⟨r1, v, r2, r3⟩ := r; exact ⟨r1, v, r2, dp_mono sub r3⟩
      | raw v => exact r
      | own w => obtain ⟨b, q, r1, r2, r3, r4⟩ := r; exact ⟨b, q, r1, r2, r3, own_mono sub r4⟩
end
/-- values to be stored: behind ps stand the new objects' addresses -/
def PvsOk (K : PySem.W.Frag) (G H : Hp) : List Pv → List V → List (Option Addr) → Prop
  | [], [], [] => True
  | k :: ks, v :: vs, q :: qs => PvOk K G H k v q ∧ PvsOk K G H ks vs qs
  | _, _, _ => False
theorem frm_hid {C : Ct} {ps ps' : List (Option Addr)} {H H' : Hp} (F : Frm C ps H ps' H') : Same (hid (OO C ps) H) (hid (OO C ps') H') := hid_sameN fun b o nt n e => by
  refine ⟨fun z => ?_, F.keep b o e nt n⟩
  rcases F.owns b z with y | y
  · exact n y
  · exact y ⟨o, e, nt⟩
theorem frm_of {C : Ct} {ps qs : List (Option Addr)} {H H' : Hp} (t : Stp C H H') (h : ∀ a, some a ∈ qs → ¬ NTd H a) : Frm C ps H (ps ++ qs) H' :=
  ⟨fun b o e nt n => t.fr b o e fun z => n (.inl (C.MO b o nt z)), fun b z => by
    rcases z with z | z
    · exact .inl (.inl z)
    · rcases List.mem_append.mp z with z | z
      · exact .inl (.inr z)
      · exact .inr (h b z), t.dom⟩
def GP (X : Cx) (C : Ct) (Γ : List Slot) (es : List Expr) (ks : List Pv) : Prop :=
  ∀ σ ps H, StOk X.K C Γ σ ps H → ∀ Q : List V → Hp → Prop, (∀ vs qs H', StOk X.K C Γ σ (ps ++ qs) H' → Stp C H H' → (∀ a, some a ∈ qs → ¬ NTd H a) → PvsOk X.K (hid (OO C (ps ++ qs)) H') H' ks vs qs → Q vs H') → tacan X es σ H Q
theorem pvOk_mono {K : PySem.W.Frag} {G G' H H' : Hp} (e : Same G G') (e2 : ∀ a u, H a = some u → H' a = some u) : ∀ {k : Pv} {v : V} {q : Option Addr}, PvOk K G H k v q → PvOk K G' H' k v q
  | .dat d, _, _, h => ⟨h.1, dp_mono e h.2⟩
  | .obj w, _, _, ⟨a, u, h1, h2, h3, h4⟩ => ⟨a, u, h1, h2, e2 a u h3, own_mono e h4⟩
section
variable {X : Cx} {C : Ct} {Γ Γ' : List Slot} {e a b c : Expr} {es : List Expr} {d : PyData} {pos p : Pos} {ds : List PyData} {x y z : Str} {Q : PQ} {ks : List Pv}
theorem gp_nil : GP X C Γ [] [] := fun σ ps H S Q q pos pins s I => pa_nil.run pos pins s σ H Q I (q [] [] H (by rw [List.append_nil]; exact S) (.refl S.inv) (fun _ h => by cases h) trivial)
theorem gp_d (ha : GE X C Γ e d) (hr : GP X C Γ es ks) (hs : starEach (e :: es) X.env = (false, eval e X.env) :: starEach es X.env := by rfl) : GP X C Γ (e :: es) (.dat d :: ks) := fun σ ps H S Q q po pins s I =>
  (pa_cons pe_can pa_can hs).run po pins s σ H Q I (ha σ ps H S _ fun v H1 t1 r1 => hr σ ps H1 (S.step t1) _ fun vs qs H2 S2 T2 N2 r2 => by
    have F2 := frm_of (ps := ps) T2 N2
    -- the datum's place among the addresses
    have mem : ∀ b, some b ∈ ps ++ none :: qs ↔ some b ∈ ps ++ qs := fun b => by simp
    have eO : OO C (ps ++ none :: qs) = OO C (ps ++ qs) := by
      funext b; unfold OO; rw [mem b]
    refine q (v :: vs) (none :: qs) H2 ?_ (t1.trans T2) (fun b hb => t1.back (N2 b (by simpa using hb))) ?_
    · refine ⟨S2.l1, by rw [List.length_append]; exact Nat.le_trans S.l2 (Nat.le_add_right _ _), fun b h => S2.th b ((mem b).mp h), S2.fr, S2.dom, S2.od, S2.inv, fun b h => S2.new b ((mem b).mp h), fun i j b e1 e2 => ?_, fun i s' e' => ?_⟩
      · have key : ∀ {i : Nat}, (ps ++ none :: qs)[i]? = some (some b) → ∃ i', (ps ++ qs)[i']? = some (some b) ∧ i = (if i' < ps.length then i' else i' + 1) := fun {i} e' => by
          by_cases hi : i < ps.length
          · rw [List.getElem?_append_left hi] at e'
            exact ⟨i, by rw [List.getElem?_append_left hi]; exact e', by rw [if_pos hi]⟩
          · rw [List.getElem?_append_right (by omega)] at e'
            obtain ⟨m, hm⟩ : ∃ m, i - ps.length = m := ⟨_, rfl⟩
            rw [hm] at e'
            cases m with
            | zero => cases e'
            | succ m =>
              refine ⟨ps.length + m, by rw [List.getElem?_append_right (by omega)]; simpa using e', ?_⟩
              rw [if_neg (by omega)]; omega
        obtain ⟨i', h1, h2⟩ := key e1
        obtain ⟨j', h3, h4⟩ := key e2
        have := S2.inj i' j' b h1 h3
        subst this
        rw [h2, h4]
      · obtain ⟨o, p, f1, f2, r⟩ := S2.sl i s' e'
        have hi : i < ps.length := Nat.lt_of_lt_of_le (List.getElem?_eq_some_iff.mp f1).1 S.l2
        rw [List.getElem?_append_left hi] at f2
        refine ⟨o, p, f1, by rw [List.getElem?_append_left hi]; exact f2, ?_⟩
        rw [eO]; exact r
    · refine ⟨⟨rfl, ?_⟩, by rw [eO]; exact r2⟩
      rw [eO]
      exact dp_mono (frm_hid F2) r1)
theorem gp_l (ha : GL X C Γ e ds) (hr : GP X C Γ es ks) (hs : starEach (e :: es) X.env = (false, eval e X.env) :: starEach es X.env := by rfl) : GP X C Γ (e :: es) (.obj (.lst ds) :: ks) := fun σ ps H S Q q po pins s I =>
  (pa_cons pe_can pa_can hs).run po pins s σ H Q I (ha σ ps H S _ fun v H1 t1 ⟨a, vs, e1, e2, e3, e4⟩ => hr σ (ps ++ [some a]) H1 (S.ext t1 e2 e3) _ fun ws qs H2 S2 T2 N2 r2 => by
    have F2 := frm_of (ps := ps ++ [some a]) T2 N2
    subst e1
    have eq : ps ++ [some a] ++ qs = ps ++ some a :: qs := by rw [List.append_assoc]; rfl
    rw [eq] at S2 r2
    have F2' := F2
    rw [eq] at F2'
    have eO : OO C (ps ++ [some a]) = fun b => OO C ps b ∨ b = a := by
      funext b
      unfold OO
      apply propext
      simp only [List.mem_append, List.mem_singleton, Option.some.injEq]
      exact ⟨fun h => by rcases h with h | h | h; exact .inl (.inl h); exact .inl (.inr h); exact .inr h, fun h => by rcases h with (h | h) | h; exact .inl h; exact .inr (.inl h); exact .inr (.inr h)⟩
    refine q (.ref a :: ws) (some a :: qs) H2 S2 (t1.trans T2) (fun b hb => ?_) ⟨⟨a, .lst vs, rfl, rfl, T2.fr a _ e3 (S.noMn e2 _ trivial), vs, rfl, ?_⟩, r2⟩
    · rcases List.mem_cons.mp hb with z | z
      · cases z; exact e2
      · exact t1.back (N2 b z)
    · refine dpAll_mono (frm_hid F2') ?_
      rw [eO]
      exact e4)
theorem pvs_cons {K : PySem.W.Frag} {G H : Hp} {k : Pv} {ks : List Pv} {vs : List V} {qs : List (Option Addr)} (h : PvsOk K G H (k :: ks) vs qs) : ∃ v vs' q qs', vs = v :: vs' ∧ qs = q :: qs' ∧ PvOk K G H k v q ∧ PvsOk K G H ks vs' qs' := by
  cases vs with
  | nil => exact h.elim
  | cons v vs =>
    cases qs with
    | nil => exact h.elim
    | cons q qs => exact ⟨v, vs, q, qs, rfl, rfl, h.1, h.2⟩
theorem pvs_nil {K : PySem.W.Frag} {G H : Hp} {vs : List V} {qs : List (Option Addr)} (h : PvsOk K G H [] vs qs) : vs = [] ∧ qs = [] := by
  cases vs with
  | nil =>
    cases qs with
    | nil => exact ⟨rfl, rfl⟩
    | cons q qs => exact h.elim
  | cons v vs => exact h.elim
/-- one value of several goes to its slot; it stood at place k behind the slots -/
theorem StOk.put1 {K : PySem.W.Frag} {σ : L2.St} {ps : List (Option Addr)} {H : Hp} {i k : Nat} {pv : Pv} {v : V} {q : Option Addr} (S : StOk K C Γ σ ps H) (hk : σ.length ≤ k) (hq : ps[k]? = some q) (h : PvOk K (hid (OO C ps) H) H pv v q) (hi : i < σ.length) :
    ∃ ps', StOk K C (Γ.set i pv.slot) (σ.set i (some v)) ps' H ∧ (∀ b, some b ∈ ps' → some b ∈ ps) ∧ ∀ j, j ≠ k → σ.length ≤ j → ps'[j]? = ps[j]? := by
  cases pv with
  | dat d => exact ⟨ps.set i none, S.put (s := .dat d) ⟨rfl, v, rfl, dp_mono (hid_less fun b => mem_set_none) h.2⟩, fun b => mem_set_none, fun j _ hj => List.getElem?_set_ne (by omega)⟩
  | obj w =>
    obtain ⟨a, u, rfl, rfl, h3, h4⟩ := h
    refine ⟨_, S.claim hk hq h3 h4 hi, fun b hm => ?_, fun j hj hl => ?_⟩
    · rcases List.mem_or_eq_of_mem_set hm with z | z
      · exact mem_set_none z
      · cases z; exact List.mem_of_getElem? hq
    · rw [List.getElem?_set_ne (by omega), List.getElem?_set_ne (fun z => hj z.symm)]
theorem w1_par (i j : Nat) {k1 k2 : Pv} {px py pt pt2 : Pos} {kt kt2 : Nat} (h : GP X C Γ [a, b] [k1, k2]) (hq : Q.nx ((Γ.set i k1.slot).set j k2.slot)) (hc : X.calm = true) (hN : X.N.Nodup) (hij : i ≠ j := by decide) (hi : X.N[i]? = some x := by rfl) (hj : X.N[j]? = some y := by rfl)
    (hx : X.env.scope.names.lookup x = some .local := by rfl) (hy : X.env.scope.names.lookup y = some .local := by rfl) (hw : swappedStores [.Tuple [.Name x px, .Name y py] kt pt] (.Tuple [a, b] kt2 pt2) X.env = pure (some [x, y]) := by rfl)
    (hs : swapsWithSole [.Tuple [.Name x px, .Name y py] kt pt] (.Tuple [a, b] kt2 pt2) pos.line X.env = pure false := by rfl) : W1 X C Γ (.Assign [.Tuple [.Name x px, .Name y py] kt pt] (.Tuple [a, b] kt2 pt2) pos) Q :=
  fun σ ps H S pins s I => (ps_par hc hN hi hj hij hx hy pa_can hw hs).run pins s σ H _ I (h σ ps H S _ fun vs qs H' S' T' N' r => by
    obtain ⟨v1, vs1, q1, qs1, rfl, rfl, r1, r⟩ := pvs_cons r
    obtain ⟨v2, vs2, q2, qs2, rfl, rfl, r2, r⟩ := pvs_cons r
    obtain ⟨rfl, rfl⟩ := pvs_nil r
    refine ⟨v1, v2, rfl, ?_⟩
    have li : i < σ.length := by rw [I.len]; exact (List.getElem?_eq_some_iff.mp hi).1
    have lj : j < σ.length := by rw [I.len]; exact (List.getElem?_eq_some_iff.mp hj).1
    have l2 := S.l2
    obtain ⟨ps1, S1, m1, n1⟩ := S'.put1 (i := i) (k := ps.length) l2 (by rw [List.getElem?_append_right (Nat.le_refl _), Nat.sub_self]; rfl) r1 li
    obtain ⟨ps2, S2, m2, n2⟩ := S1.put1 (i := j) (k := ps.length + 1) (by rw [List.length_set]; omega) (by rw [n1 (ps.length + 1) (by omega) (by omega), List.getElem?_append_right (by omega), show ps.length + 1 - ps.length = 1 by omega]; rfl) (pvOk_mono (hid_less m1) (fun _ _ e => e) r2) (by rw [List.length_set]; exact lj)
    exact ⟨_, ps2, S2, (frm_of (ps := ps) T' N').trans (.less fun b hb => m1 b (m2 b hb)), hq⟩)
theorem w1_par3 (i j l : Nat) {k1 k2 k3 : Pv} {px py pz pt pt2 : Pos} {kt kt2 : Nat} (h : GP X C Γ [a, b, c] [k1, k2, k3]) (hq : Q.nx (((Γ.set i k1.slot).set j k2.slot).set l k3.slot)) (hc : X.calm = true) (hN : X.N.Nodup) (hij : i ≠ j := by decide) (hil : i ≠ l := by decide) (hjl : j ≠ l := by decide)
    (hi : X.N[i]? = some x := by rfl) (hj : X.N[j]? = some y := by rfl) (hl : X.N[l]? = some z := by rfl) (hx : X.env.scope.names.lookup x = some .local := by rfl) (hy : X.env.scope.names.lookup y = some .local := by rfl) (hz : X.env.scope.names.lookup z = some .local := by rfl)
    {t : TS} (hp : PS X (.Assign [.Tuple [.Name x px, .Name y py, .Name z pz] kt pt] (.Tuple [a, b, c] kt2 pt2) pos) t) (ht : t = tPar3 i j l (tacan X [a, b, c])) : W1 X C Γ (.Assign [.Tuple [.Name x px, .Name y py, .Name z pz] kt pt] (.Tuple [a, b, c] kt2 pt2) pos) Q :=
  fun σ ps H S pins s I => hp.run pins s σ H _ I (by
    rw [ht]
    refine h σ ps H S _ fun vs qs H' S' T' N' r => ?_
    obtain ⟨v1, vs1, q1, qs1, rfl, rfl, r1, r⟩ := pvs_cons r
    obtain ⟨v2, vs2, q2, qs2, rfl, rfl, r2, r⟩ := pvs_cons r
    obtain ⟨v3, vs3, q3, qs3, rfl, rfl, r3, r⟩ := pvs_cons r
    obtain ⟨rfl, rfl⟩ := pvs_nil r
    refine ⟨v1, v2, v3, rfl, ?_⟩
    have li : i < σ.length := by rw [I.len]; exact (List.getElem?_eq_some_iff.mp hi).1
    have lj : j < σ.length := by rw [I.len]; exact (List.getElem?_eq_some_iff.mp hj).1
    have ll : l < σ.length := by rw [I.len]; exact (List.getElem?_eq_some_iff.mp hl).1
    have l2 := S.l2
    obtain ⟨ps1, S1, m1, n1⟩ := S'.put1 (i := i) (k := ps.length) l2 (by rw [List.getElem?_append_right (Nat.le_refl _), Nat.sub_self]; rfl) r1 li
    obtain ⟨ps2, S2, m2, n2⟩ := S1.put1 (i := j) (k := ps.length + 1) (by rw [List.length_set]; omega) (by rw [n1 (ps.length + 1) (by omega) (by omega), List.getElem?_append_right (by omega), show ps.length + 1 - ps.length = 1 by omega]; rfl) (pvOk_mono (hid_less m1) (fun _ _ e => e) r2) (by rw [List.length_set]; exact lj)
    obtain ⟨ps3, S3, m3, n3⟩ := S2.put1 (i := l) (k := ps.length + 2) (by rw [List.length_set, List.length_set]; omega) (by
      rw [n2 (ps.length + 2) (by omega) (by rw [List.length_set]; omega), n1 (ps.length + 2) (by omega) (by omega), List.getElem?_append_right (by omega), show ps.length + 2 - ps.length = 2 by omega]; rfl) (pvOk_mono (hid_less fun b hb => m1 b (m2 b hb)) (fun _ _ e => e) r3) (by rw [List.length_set, List.length_set]; exact ll)
    exact ⟨_, ps3, S3, (frm_of (ps := ps) T' N').trans (.less fun b hb => m1 b (m2 b (m3 b hb))), hq⟩)
end
end Fw
namespace Fw
open PySem PySem.Spec PyProof.Rows L2
section
variable {X : Cx} {C : Ct} {Γ Γ' Γ2 : List Slot} {e a b c tg iter : Expr} {d : PyData} {pos p : Pos} {ds : List PyData} {x y : Str} {Q : PQ} {α : Type}
/-- lo, lo + c, .. n of them -/
def rngC (lo c : Int) (n : Nat) : List PyData := (List.range n).map fun (i : Nat) => PyData.int (lo + (i : Nat) * c)
theorem yld_rngC {K : PySem.W.Frag} {O : Addr → Prop} {H1 : Hp} {lo c : Int} {n : Nat} : Yld K O (Itc lo c n) (rngC lo c n) H1 := fun O' H2 _ _ _ => by
  refine ⟨fun i d e => ?_, ?_⟩
  · unfold rngC at e
    rw [List.getElem?_map] at e
    cases q : (List.range n)[i]? with
    | none => rw [q] at e; cases e
    | some j =>
      rw [q] at e
      obtain ⟨h1, h2⟩ := List.getElem?_eq_some_iff.mp q
      rw [List.length_range] at h1
      rw [List.getElem_range] at h2
      subst h2
      have e' : PyData.int (lo + (i : Nat) * c) = d := Option.some.inj e
      subst e'
      refine ⟨h1, fun x H3 z => ?_⟩
      obtain ⟨rfl, rfl⟩ := z
      exact ⟨Same.refl _, .int _⟩
  · show n ≤ (rngC lo c n).length
    unfold rngC
    rw [List.length_map, List.length_range]
    exact Nat.le_refl _
/-- range(m, n, -1) -/
theorem gi_rangeD {m n : Int} (hm : X.mg "range" = none) (ha : GE X C Γ a (.int m)) (hb : GE X C Γ b (.int n)) (hc : GE X C Γ c (.int (-1))) (h1 : n ≤ 1000000000) (h2 : -1000000000 ≤ n) (h3 : m ≤ 1000000000) (h4 : -1000000000 ≤ m) (hg : Gl X "range" := by rfl)
    {t : TI} (hp : PI X tg (.Call (.Name "range" p) [a, b, c] [] pos) t) (ht : t = iRng3 (tCons (tcan X a) (tCons (tcan X b) (tCons (tcan X c) tNil)))) : GI X C Γ tg (.Call (.Name "range" p) [a, b, c] [] pos) (rngC m (-1) (m - n).toNat) :=
  gi_of hp fun σ ps H S R q => by
    rw [ht]
    refine ha σ ps H S _ fun v H1 t1 r1 => hb σ ps H1 (S.step t1) _ fun u H2 t2 r2 => hc σ ps H2 ((S.step t1).step t2) _ fun w H3 t3 r3 => ?_
    rw [dp_int r1, dp_int r2, dp_int r3]
    exact ⟨m, n, -1, (m - n).toNat, rfl, RgC.neg (by omega) (by omega) (by omega) (by omega), q _ H3 ((t1.trans t2).trans t3) yld_rngC⟩
theorem ge_allB {xs : List α} {g : α → Bool} (hm : X.mg "all" = none) (hk : X.calm = true) (ha : GS X C Γ e ((xs.map g).map .bool)) (hg : Gl X "all" := by rfl) (hs : starEach [e] X.env = (false, eval e X.env) :: starEach [] X.env := by rfl) (hpl : (backTo pos (starEach [] X.env)).any (·.1) = false := by rfl) :
    GE X C Γ (.Call (.Name "all" p) [e] [] pos) (.bool (xs.all g)) := by
  have h := ge_all (p := p) (pos := pos) hm hk ha hg hs hpl
  rw [List.all_map] at h
  exact h
theorem ge_anyB {xs : List α} {g : α → Bool} (hm : X.mg "any" = none) (hk : X.calm = true) (ha : GS X C Γ e ((xs.map g).map .bool)) (hg : Gl X "any" := by rfl) (hs : starEach [e] X.env = (false, eval e X.env) :: starEach [] X.env := by rfl) (hpl : (backTo pos (starEach [] X.env)).any (·.1) = false := by rfl) :
    GE X C Γ (.Call (.Name "any" p) [e] [] pos) (.bool (xs.any g)) := by
  have h := ge_any (p := p) (pos := pos) hm hk ha hg hs hpl
  rw [List.any_map] at h
  exact h
/-- the items of a tuple -/
def tupOf : PyData → List PyData
  | .tuple ds => ds
  | _ => []
theorem gi_tupD (h : GE X C Γ iter (.tuple ds)) : GI X C Γ tg iter (ds.map fun d => d) := gi_cast (gi_tup h) (List.map_id' ds).symm
theorem gi_listD (h : GE X C Γ iter (.list ds)) : GI X C Γ tg iter (ds.map fun d => d) := gi_cast (gi_list h) (List.map_id' ds).symm
end
end Fw
namespace Fw
open PySem PySem.Spec PyProof.Rows L2
def F_expect : DSpec := fun ds Qd Qe => ∃ b x, ds = [.bool b, .str x] ∧ (b = true → Qd .none) ∧ (b = false → Qe x)
def isCountD (v : PyData) (lo hi : Int) : Bool := match v with
  | .int i => decide (lo ≤ i) && decide (i ≤ hi)
  | _ => false
def F_is_count : DSpec := fun ds Qd _ => ∃ v lo hi, ds = [v, .int lo, .int hi] ∧ Qd (.bool (isCountD v lo hi))
def isListD (v : PyData) (lo hi : Int) : Bool := match v with
  | .tuple ds => decide (lo ≤ ds.length) && decide ((ds.length : Int) ≤ hi)
  | _ => false
def F_is_list : DSpec := fun ds Qd _ => ∃ v lo hi, ds = [v, .int lo, .int hi] ∧ Qd (.bool (isListD v lo hi))
section
variable {X : Cx} {C : Ct} {Γ : List Slot} {e t : Expr} {d : PyData} {pos p p1 : Pos} {n : Str} {CB : Addr} {Q : PQ} {k : Nat} {b : Bool}
theorem w1_exprN {P : PyData → Prop} (he : GN X C Γ e P) (hq : ∀ d, P d → Q.nx Γ) (hs : swapsWith e none pos.line X.env = pure false := by rfl) : W1 X C Γ (.Expr e pos) Q :=
  w1_of (ps_expr pe_can hs) fun σ ps H S => he σ ps H S _ fun v H1 t1 ⟨d, hd, _⟩ => ⟨Γ, ps, S.step t1, .stp t1, hq d hd⟩
theorem w1_expect {j} {Qe : Str → Prop} (B : Bd X C CB k Qe) (Ca : Cal X.prog X.w X.K X.mg X.base CB k "expect" 2 F_expect) (ht : GE X C Γ t (.bool b)) (h1 : b = true → Q.nx Γ) (h2 : b = false → Qe n) (hg : Gl X "expect" := by rfl)
    (he : starEach [t, .Constant (.str n) j p1] X.env = (false, eval t X.env) :: starEach [.Constant (.str n) j p1] X.env := by rfl) (he2 : starEach [.Constant (.str n) j p1] X.env = (false, eval (.Constant (.str n) j p1) X.env) :: starEach [] X.env := by rfl) (hpl : (backTo pos (starEach [.Constant (.str n) j p1] X.env)).any (·.1) = false := by rfl)
    {pos' : Pos} (hs : swapsWith (.Call (.Name "expect" p) [t, .Constant (.str n) j p1] [] pos) none pos'.line X.env = pure false := by rfl) : W1 X C Γ (.Expr (.Call (.Name "expect" p) [t, .Constant (.str n) j p1] [] pos) pos') Q :=
  w1_exprN (P := fun _ => b = true) (gn_callE B.pass Ca B.room (Qe := fun y => b = false ∧ y = n) (ga_cons ht (ga_cons ge_str ga_nil he2) he) rfl ⟨b, n, rfl, fun h => h, fun h => ⟨h, rfl⟩⟩ (fun y hy => by rw [hy.2]; exact B.exc n (h2 hy.1)) hg (by decide) he hpl) (fun _ hb => h1 hb) hs
theorem ge_pair (h : GE X C Γ e d) {d' : PyData} (q : d = d') : GE X C Γ e d' := q ▸ h
end
theorem cal_mk {P : Program} {w : World} {K : PySem.W.Frag} {mg : Str → Option Value} {base : Heap} {CB : Addr} {k n : Nat} {x qual : Str} {params : Arguments} {body : List Stmt} {scope : Scope} {f : Addr} {fd : FuncData} {ps : List Str} {F : DSpec}
    (Fd : FunD K x qual params body scope [] [] f fd) (h : FnOk P w K mg base (L2.CX P w) k f fd ps (spP K CB n F)) (g : mg x = some (.ref f)) (hb : L2.Binds K fd ps []) : Cal P w K mg base CB k x n F :=
  ⟨⟨f, fd, ps, h, g, Fd.kp, hb⟩⟩
/-- indexes of what is so -/
def idxs {α : Type} (p : α → Bool) (l : List α) : List Int := (l.zipIdx.filter fun q => p q.1).map fun q => ((q.2 : Nat) : Int)
end Fw
namespace Fw
open PySem PySem.Spec PyProof.Rows L2
section
variable {X : Cx} {C : Ct} {Γ : List Slot} {e a tg iter c elt : Expr} {ifs : List Expr} {scope : Scope} {body rest : List Stmt} {pos p : Pos} {Q : PQ} {ds : List PyData} {own : List (Str × Nat)}
theorem hold_wk {C : Ct} {K : PySem.W.Frag} {ps : List (Option Addr)} {H : Hp} {P : List Slot → Prop} {σ : L2.St} {H' : Hp} (h : Hold K C ps H (fun Γ' => ∃ Γ'', Wk Γ' Γ'' ∧ P Γ'') σ H') : Hold K C ps H P σ H' := by
  obtain ⟨Γ1, ps1, S1, F1, Γ2, w, hp⟩ := h
  obtain ⟨ps2, S2, m⟩ := w σ ps1 H' K C S1
  exact ⟨Γ2, ps2, S2, F1.trans (.less m), hp⟩
/-- the end of a block, the slots seen otherwise -/
theorem ws_wkE (h : WS X C Γ rest { Q with nx := fun Γ' => ∃ Γ'', Wk Γ' Γ'' ∧ Q.nx Γ'' }) : WS X C Γ rest Q := fun σ ps H S pins s I =>
  wpAny_mono (h σ ps H S pins s I) (fun f s' q => by
    cases f with
    | next => obtain ⟨σ', H', I', q⟩ := q; exact ⟨σ', H', I', hold_wk q⟩
    | brk => exact q
    | cont => exact q
    | ret v => exact q) fun _ _ z => z
theorem ws_wkC (h : WS X C Γ rest { Q with ct := fun Γ' => ∃ Γ'', Wk Γ' Γ'' ∧ Q.ct Γ'' }) : WS X C Γ rest Q := fun σ ps H S pins s I =>
  wpAny_mono (h σ ps H S pins s I) (fun f s' q => by
    cases f with
    | next => exact q
    | brk => exact q
    | cont => obtain ⟨σ', H', I', q⟩ := q; exact ⟨σ', H', I', hold_wk q⟩
    | ret v => exact q) fun _ _ z => z
theorem w1_forW (Iv : Nat → List Slot → Prop) (hp : PassesOwn (model X.prog X.w) X.A X.env X.xe) (hc : X.calm = true) (hi : GI X C Γ tg iter ds) (h0 : Iv 0 Γ)
    (hs : ∀ (i : Nat) d Γ1, ds[i]? = some d → Iv i Γ1 → ∃ Γ2 is, GG X C Γ1 tg d Γ2 is ∧ WS X C Γ2 body { Q with nx := fun Γ' => ∃ Γ'', Wk Γ' Γ'' ∧ Iv (i + 1) Γ'', ct := fun Γ' => ∃ Γ'', Wk Γ' Γ'' ∧ Iv (i + 1) Γ'', bk := Q.nx })
    (hd : ∀ Γ', Iv ds.length Γ' → Q.nx Γ') (hf : ∀ x, foldedSetIterable iter X.env x = pure x := by intro _; rfl) : W1 X C Γ (.For tg iter body [] pos) Q :=
  w1_for Iv hp hc hi h0 (fun i d Γ1 h1 h2 => by
    obtain ⟨Γ2, is, gg, ws⟩ := hs i d Γ1 h1 h2
    exact ⟨Γ2, is, gg, ws_wkE (ws_wkC ws)⟩) hd hf
theorem rngD_len (lo : Int) (n : Nat) : (rngD lo n).length = n := by
  unfold rngD
  rw [List.length_map, List.length_range]
theorem rngD_get {lo : Int} {n i : Nat} {d : PyData} (h : (rngD lo n)[i]? = some d) : i < n ∧ d = .int (lo + (i : Nat)) := by
  unfold rngD at h
  rw [List.getElem?_map] at h
  obtain ⟨j, hj, rfl⟩ := Option.map_eq_some_iff.mp h
  have hlt := (List.getElem?_eq_some_iff.mp hj).1
  rw [List.length_range] at hlt
  rw [List.getElem?_range hlt] at hj
  cases hj
  exact ⟨hlt, rfl⟩
theorem rngD_get0 {n i : Nat} {d : PyData} (h : (rngD 0 n)[i]? = some d) : i < n ∧ d = .int (i : Nat) := by
  obtain ⟨h1, h2⟩ := rngD_get h
  exact ⟨h1, by rw [h2, Int.zero_add]⟩
theorem rngC_len (lo c : Int) (n : Nat) : (rngC lo c n).length = n := by
  unfold rngC
  rw [List.length_map, List.length_range]
theorem rngC_get {lo c : Int} {n i : Nat} {d : PyData} (h : (rngC lo c n)[i]? = some d) : i < n ∧ d = .int (lo + (i : Nat) * c) := by
  unfold rngC at h
  rw [List.getElem?_map] at h
  obtain ⟨j, hj, rfl⟩ := Option.map_eq_some_iff.mp h
  have hlt := (List.getElem?_eq_some_iff.mp hj).1
  rw [List.length_range] at hlt
  rw [List.getElem?_range hlt] at hj
  cases hj
  exact ⟨hlt, rfl⟩
theorem rngD_0 (n : Nat) : rngD 0 n = (List.range n).map fun (i : Nat) => PyData.int (i : Nat) := by
  unfold rngD
  exact List.map_congr_left fun i _ => by rw [Int.zero_add]
def GIF (X : Cx) (C : Ct) (Γ : List Slot) (tg iter : Expr) : Prop := ∀ σ ps H, StOk X.K C Γ σ ps H → ∀ R : It → Hp → Prop, ican X tg iter σ H R
theorem gif_range1 (hm : X.mg "range" = none) (h : GN X C Γ a fun _ => False) (hg : Gl X "range" := by rfl) (hs : starEach [a] X.env = [(false, eval a X.env)] := by rfl) : GIF X C Γ tg (.Call (.Name "range" p) [a] [] pos) := fun σ ps H S R pins s I =>
  (pi_range1 hg hm (pa_cons pe_can pa_nil hs) hs).run pins s σ H R I (h σ ps H S _ fun v H1 t1 ⟨_, z, _⟩ => z.elim)
theorem gif_ge (h : GN X C Γ iter fun _ => False) : GIF X C Γ tg iter := fun σ ps H S R pins s I =>
  (pi_list pe_can).run pins s σ H R I (h σ ps H S _ fun v H1 t1 ⟨_, z, _⟩ => z.elim)
theorem gn_lcF {P : PyData → Prop} (own : List (Str × Nat)) (hc : X.calm = true) (hN : X.N.Nodup) (hi : GIF X C Γ tg iter)
    (ok : BlkOk X.N X.env.scope scope own := by exact blkOk_by (by kernel_rfl)) (hs : ∀ x, foldedSetIterable iter X.env x = pure x := by intro _; rfl) :
    GN X C Γ (.ListComp elt [⟨tg, iter, ifs, 0⟩] scope pos) P :=
  gx_of (pe_lc (own := own) (wi := ican X tg iter) (g := fun v σ H Q => ∀ (s : Shared) (H1 : Hp) (Cc : Addr) (cl : List (Str × Addr)) (fp : List Addr), gcan (X.blk s H1 scope (compEnvC scope cl Cc X.env) fp) tg v σ H Q)
    (tt := fun σ H Q => ∀ (s : Shared) (H1 : Hp) (Cc : Addr) (cl : List (Str × Addr)) (fp : List Addr) pins s', Inv (X.blk s H1 scope (compEnvC scope cl Cc X.env) fp) pins σ H s' →
        wpAny (model X.prog X.w) X.A (forIn ifs true fun c r => if r = true then do let ok ← isTrue c (compEnvC scope cl Cc X.env) (eval c (compEnvC scope cl Cc X.env)); pure (ForInStep.yield ok) else pure (ForInStep.yield r)) (TP (X.blk s H1 scope (compEnvC scope cl Cc X.env) fp) pins σ Q) (fun _ _ => False) s')
    (te := fun σ H Q => ∀ (s : Shared) (H1 : Hp) (Cc : Addr) (cl : List (Str × Addr)) (fp : List Addr), tcan (X.blk s H1 scope (compEnvC scope cl Cc X.env) fp) elt σ H Q)
    hc hN pi_can ok (fun s H Cc cl fp => ⟨fun pins s' σ H v u Q I r h => h s _ Cc cl fp pins s' u I r⟩) (fun s H Cc cl fp => ⟨fun pins s' σ H Q I h => h s _ Cc cl fp pins s' I⟩) (fun s H Cc cl fp => ⟨fun pins s' σ H Q I h => h s _ Cc cl fp pins s' I⟩) hs)
    fun σ ps H S Q q => hi σ ps H S _
theorem ge_gnF {d : PyData} (h : GN X C Γ e fun _ => False) : GE X C Γ e d := gx_imp h fun _ _ _ _ _ _ _ ⟨_, z, _⟩ => z.elim
theorem gn_F {P : PyData → Prop} (h : GN X C Γ e fun _ => False) : GN X C Γ e P := gn_imp h fun _ z => z.elim
end
section
variable {X : Cx} {C : Ct} {Γ : List Slot} {elt tg iter c : Expr} {scope : Scope} {pos : Pos} {α : Type} {Q : PQ}
/-- y = [elt for tg in iter], on one line -/
theorem w1_setM (i : Nat) {y : Str} {py spos : Pos} {xs : List α} {f : α → PyData} {g : α → PyData} {Γt : α → List Slot} {is : List Nat} (own : List (Str × Nat)) (hc : X.calm = true) (hN : X.N.Nodup) (hi : GI X C Γ tg iter (xs.map f)) (hz : xs.length ≤ 1000000)
    (hg : ∀ x ∈ xs, Blks X scope fun Y => GG Y C (wipeG Γ (own.map (·.2))) tg (f x) (Γt x) is) (he : ∀ x ∈ xs, Blks X scope fun Y => GE Y C (Γt x) elt (g x)) (hq : Q.nx (Γ.set i (.own (.lst (xs.map g)))))
    (ok : BlkOk X.N X.env.scope scope own := by exact blkOk_by (by kernel_rfl)) (hsw : swapsWith (.ListComp elt [⟨tg, iter, [], 0⟩] scope pos) (some (.Name y py)) spos.line X.env = pure true := by exact sw_true rfl rfl rfl rfl) (hv : notOwns Γ (own.map (·.2)) = true := by rfl) (his : is.all (fun i => (own.map (·.2)).contains i) = true := by rfl) (hs : ∀ x, foldedSetIterable iter X.env x = pure x := by intro _; rfl)
    (hy : X.N[i]? = some y := by rfl) (hyl : X.env.scope.names.lookup y = some .local := by rfl) :
    W1 X C Γ (.Assign [.Name y py] (.ListComp elt [⟨tg, iter, [], 0⟩] scope pos) spos) Q :=
  w1_setLc i (p := fun _ => true) (own := own) hc hN hi hz hg (fun x _ s H Cc cl fp => gts_nil) (fun x hx _ => he x hx) (by
    have e : (xs.filter fun _ => true) = xs := List.filter_eq_self.mpr fun _ _ => rfl
    rw [e]; exact hq) ok hsw hv his hs hy hyl
/-- y = [elt for tg in iter if c], on one line -/
theorem w1_setF (i : Nat) {y : Str} {py spos : Pos} {xs : List α} {f : α → PyData} {p : α → Bool} {g : α → PyData} {Γt : α → List Slot} {is : List Nat} (own : List (Str × Nat)) (hc : X.calm = true) (hN : X.N.Nodup) (hi : GI X C Γ tg iter (xs.map f)) (hz : xs.length ≤ 1000000)
    (hg : ∀ x ∈ xs, Blks X scope fun Y => GG Y C (wipeG Γ (own.map (·.2))) tg (f x) (Γt x) is) (ht : ∀ x ∈ xs, Blks X scope fun Y => GT Y C (Γt x) c (p x)) (he : ∀ x ∈ xs, p x = true → Blks X scope fun Y => GE Y C (Γt x) elt (g x)) (hq : Q.nx (Γ.set i (.own (.lst ((xs.filter p).map g)))))
    (ok : BlkOk X.N X.env.scope scope own := by exact blkOk_by (by kernel_rfl)) (hsw : swapsWith (.ListComp elt [⟨tg, iter, [c], 0⟩] scope pos) (some (.Name y py)) spos.line X.env = pure true := by exact sw_true rfl rfl rfl rfl) (hv : notOwns Γ (own.map (·.2)) = true := by rfl) (his : is.all (fun i => (own.map (·.2)).contains i) = true := by rfl) (hs : ∀ x, foldedSetIterable iter X.env x = pure x := by intro _; rfl)
    (hy : X.N[i]? = some y := by rfl) (hyl : X.env.scope.names.lookup y = some .local := by rfl) :
    W1 X C Γ (.Assign [.Name y py] (.ListComp elt [⟨tg, iter, [c], 0⟩] scope pos) spos) Q :=
  w1_setLc i (own := own) hc hN hi hz hg (fun x hx s H Cc cl fp => gts_one (ht x hx s H Cc cl fp)) he hq ok hsw hv his hs hy hyl
end
end Fw
namespace Fw
open PySem PySem.Spec PyProof.Rows L2
theorem atI_of {α : Type} {xs : List α} {i : Int} {v : α} (h0 : 0 ≤ i) (h : xs[i.toNat]? = some v) : atI xs i = some v := by
  have := atI_nat h
  rwa [Int.toNat_of_nonneg h0] at this
theorem atI_map {α β : Type} {f : α → β} {xs : List α} {i : Int} {v : α} (h : atI xs i = some v) : atI (xs.map f) i = some (f v) := by
  obtain ⟨j, h1, h2, h3, _⟩ := atI_get h
  unfold atI at h ⊢
  rw [List.length_map]
  cases e : ixN xs.length i with
  | none => rw [e] at h; cases h
  | some k =>
    rw [e] at h
    show (xs.map f)[k]? = _
    rw [List.getElem?_map]
    have : xs[k]? = some v := h
    rw [this]
    rfl
theorem cut_to {α : Type} {xs : List α} {r : Int} (h0 : 0 ≤ r) : cut xs none (some r) = xs.take r.toNat := by
  show (xs.drop 0).take (HT.sIx xs.length xs.length (some r) - 0) = _
  rw [List.drop_zero]
  have e := HT.sIx_nat xs.length xs.length r.toNat
  rw [Int.toNat_of_nonneg h0] at e
  rw [e, Nat.sub_zero, ← List.take_take, List.take_length]
theorem cut_from {α : Type} {xs : List α} {r : Int} (h0 : 0 ≤ r) : cut xs (some r) none = xs.drop r.toNat := by
  show (xs.drop (HT.sIx xs.length 0 (some r))).take (xs.length - HT.sIx xs.length 0 (some r)) = _
  have e := HT.sIx_nat xs.length 0 r.toNat
  rw [Int.toNat_of_nonneg h0] at e
  rw [e]
  by_cases h : r.toNat ≤ xs.length
  · rw [Nat.min_eq_left h, List.take_of_length_le (by rw [List.length_drop]; exact Nat.le_refl _)]
  · rw [Nat.min_eq_right (by omega), List.drop_of_length_le (Nat.le_refl _), List.drop_of_length_le (by omega), List.take_nil]
theorem sum_ones {α : Type} : ∀ (l : List α), ((l.map fun _ => (1 : Int))).sum = l.length
  | [] => rfl
  | x :: l => by
    rw [List.map_cons, List.sum_cons, sum_ones l, List.length_cons]
    push_cast
    omega
section
variable {X : Cx} {C : Ct} {Γ : List Slot} {a b c : Expr} {x y z : Str} {pos : Pos} {Q : PQ}
theorem w1_p3 (i j l : Nat) {k1 k2 k3 : Pv} {px py pz pt pt2 : Pos} {kt kt2 : Nat} (h : GP X C Γ [a, b, c] [k1, k2, k3]) (hq : Q.nx (((Γ.set i k1.slot).set j k2.slot).set l k3.slot)) (hc : X.calm = true) (hN : X.N.Nodup) (hij : i ≠ j := by decide) (hil : i ≠ l := by decide) (hjl : j ≠ l := by decide)
    (hi : X.N[i]? = some x := by rfl) (hj : X.N[j]? = some y := by rfl) (hl : X.N[l]? = some z := by rfl) (hx : X.env.scope.names.lookup x = some .local := by rfl) (hy : X.env.scope.names.lookup y = some .local := by rfl) (hz : X.env.scope.names.lookup z = some .local := by rfl)
    (hw : swappedStores [.Tuple [.Name x px, .Name y py, .Name z pz] kt pt] (.Tuple [a, b, c] kt2 pt2) X.env = pure (some [x, y, z]) := by rfl)
    (hs : swapsWithSole [.Tuple [.Name x px, .Name y py, .Name z pz] kt pt] (.Tuple [a, b, c] kt2 pt2) pos.line X.env = pure false := by rfl) :
    W1 X C Γ (.Assign [.Tuple [.Name x px, .Name y py, .Name z pz] kt pt] (.Tuple [a, b, c] kt2 pt2) pos) Q :=
  w1_par3 i j l h hq hc hN hij hil hjl hi hj hl hx hy hz (ps_par3 hc hN hi hj hl hij hil hjl hx hy hz pa_can hw hs) rfl
end
end Fw
namespace Fw
open PySem PySem.Spec PyProof.Rows L2
section
variable {X : Cx} {C : Ct} {Γ : List Slot} {e b : Expr} {d : PyData} {ds : List PyData} {pos p : Pos} {x : Str} {v0 : V} {Q : PQ}
theorem ge_ixR (i : Nat) (h0 : Γ[i]? = some (.own (.lstR v0 ds))) {j : Int} (hb : GE X C Γ b (.int j)) (h : atI ds j = some d) (hN : X.N[i]? = some x := by rfl) (hv : Vis X.env.scope x := by first | exact Or.inl rfl | exact Or.inr (Or.inl rfl) | exact Or.inr (Or.inr rfl))
    (hd : (x == ("__debug__" : Str)) = false := by decide) (hcd : (x == ("__classdict__" : Str)) = false := by decide) (hs : PlainIx b := by exact fun _ _ => rfl) : GE X C Γ (.Subscript (.Name x p) b pos) d :=
  gx_of (pe_ix ix_list (pe_var hN hv hd hcd) pe_can hs) fun σ ps H S Q q => by
    obtain ⟨a, u, e1, e2, _⟩ := S.getO h0
    refine ⟨.ref a, e1, hb σ ps H S _ fun y H2 t2 r2 => ?_⟩
    obtain ⟨a', u', e1', _, e3, vs, e4, _, e5⟩ := (S.step t2).getO h0
    rw [e1] at e1'
    cases e1'
    subst e4
    obtain ⟨v, h3, h4⟩ := atI_dp e5 h
    exact ⟨a, vs, j, v, rfl, dp_int r2, .inl (.inl e3), h3, q v H2 t2 h4⟩
theorem w1_setIxR (i : Nat) {k : Int} {j : Nat} {d : PyData} (h : Γ[i]? = some (.own (.lstR v0 ds)) := by rfl) (he : GE X C Γ e d) (hb : GE X C Γ b (.int k)) (hj : ixN ds.length k = some (j + 1)) (hq : Q.nx (Γ.set i (.own (.lstR v0 (ds.set (j + 1) d))))) {p1 p2 : Pos} (hN : X.N[i]? = some x := by rfl) (hv : Vis X.env.scope x := by first | exact Or.inl rfl | exact Or.inr (Or.inl rfl) | exact Or.inr (Or.inr rfl))
    (hd : (x == ("__debug__" : Str)) = false := by decide) (hcd : (x == ("__classdict__" : Str)) = false := by decide)
    (ha : ∀ v, assign (.Subscript (.Name x p1) b p2) X.env v = (do
      let ov ← holding [v] (eval (.Name x p1) X.env)
      let iv ← holding [v, ov] (eval b X.env)
      standAt p2
      holding [v, ov, iv] (setItem ov iv v)
      release [v, ov, iv] []) := by intro _; rfl)
    (hs : swapsWithSole [.Subscript (.Name x p1) b p2] e pos.line X.env = pure false := by rfl) (hw : swappedStores [.Subscript (.Name x p1) b p2] e X.env = pure none := by rfl) (h1 : (assignEach [.Subscript (.Name x p1) b p2] X.env).map (·.2) = [assign (.Subscript (.Name x p1) b p2) X.env] := by rfl) :
    W1 X C Γ (.Assign [.Subscript (.Name x p1) b p2] e pos) Q :=
  w1_of (ps_asg pe_can (pg_sub (pe_var hN hv hd hcd) pe_can set_list ha) hs hw h1) fun σ ps H S => he σ ps H S _ fun v H1 t1 r1 => by
    have S1 := S.step t1
    obtain ⟨a, u, e1, _, _⟩ := S1.getO h
    refine ⟨_, e1, hb σ ps H1 S1 _ fun w H2 t2 r2 => ?_⟩
    have S2 := S1.step t2
    obtain ⟨a', u', f1, f2, f3, ws, rfl, f4, f5⟩ := S2.getO h
    rw [e1] at f1
    cases f1
    refine ⟨a, ws, k, j + 1, rfl, dp_int r2, f3, by rw [dpAll_len f5]; exact hj, _, ps, S2.mutS h f2 e1 (u := .lst (ws.set (j + 1) v)) (w' := .lstR v0 (ds.set (j + 1) d)) ⟨_, rfl, by rw [List.getElem?_set_ne (by omega)]; exact f4, dpAll_set (j + 1) f5 (dp_mono t2.hid r1)⟩, (Frm.stp (t1.trans t2)).trans (.mut (List.mem_of_getElem? f2)), hq⟩
/-- return e, more told of the end -/
theorem w1_retX (he : GE X C Γ e d) (hP : ∀ σ ps H v, StOk X.K C Γ σ ps H → Dp X.K (hid (OO C ps) H) v d → Q.rt H v) : W1 X C Γ (.Return (some e) pos) Q :=
  w1_of (ps_ret pe_can) fun σ ps H S => he σ ps H S _ fun v H1 t1 r1 => ⟨(S.step t1).end_, hP σ ps H1 v (S.step t1) r1⟩
end
structure RW where
  row : Addr
  scr : Addr
  ns : List Int
  T : List (Addr × Str)
def rowH (R : RW) (H : Hp) : Prop := ∃ i s c : Int, H R.row = some (.lst [.ref R.scr, .int i, .int s, .int c]) ∧ 0 ≤ i ∧ 0 ≤ s ∧ s < 2147483647 ∧ 0 ≤ c
def scrI (K : PySem.W.Frag) (R : RW) (H0 H : Hp) : Prop := (NTd H0 R.scr ∧ SqL K H R.scr (R.ns.map V.int)) ∨ SqL K (fun _ => none) R.scr (R.ns.map V.int)
structure rowI (K : PySem.W.Frag) (R : RW) (H0 H : Hp) : Prop where
  row : rowH R H
  scr : scrI K R H0 H
  tab : LamX.Tabs R.T H
  old : NTd H0 R.row
theorem sqL_of {K : PySem.W.Frag} {H H' : Hp} {a : Addr} {xs : List V} (h : SqL K H a xs) (e : ∀ o, H a = some o → H' a = some o) : SqL K H' a xs := by
  rcases h with (h | ⟨o, h⟩) | h
  · exact .inl (.inl (e _ h))
  · exact .inl (.inr ⟨o, e _ h⟩)
  · exact .inr h
theorem scrI.sq {K : PySem.W.Frag} {R : RW} {H0 H : Hp} (h : scrI K R H0 H) : SqL K H R.scr (R.ns.map V.int) := by
  rcases h with ⟨_, h⟩ | h
  · exact h
  · exact sqL_of h fun o z => by cases z
theorem tabs_of {T : List (Addr × Str)} {H H' : Hp} (h : LamX.Tabs T H) (e : ∀ a o, Fixed o → H a = some o → H' a = some o) : LamX.Tabs T H' := fun p hp => by
  obtain ⟨ps, h1, h2, h3⟩ := h p hp
  refine ⟨ps, e _ _ trivial h1, h2, fun pos cv hc => ?_⟩
  obtain ⟨c, e1, e2⟩ := h3 pos cv hc
  exact ⟨c, e1, e _ _ (by unfold LamX.CodeO; trivial) e2⟩
def ctR (K : PySem.W.Frag) (R : RW) (H0 : Hp) (O0 : Addr → Prop) (E : XK) (hO : O0 R.row) : Ct where
  H0 := H0
  O0 := O0
  M := fun a o => a = R.row ∨ ¬ NT o
  I := rowI K R H0
  E := E
  MO := fun a o n h => by
    rcases h with h | h
    · rw [h]; exact hO
    · exact absurd n h
  Ist := fun H H' e h => by
    obtain ⟨⟨i, s, c, h1, h2⟩, h3, h4, h5⟩ := h
    refine ⟨⟨i, s, c, e _ _ (.inl h5) h1, h2⟩, ?_, tabs_of h4 fun a o f => e a o (.inr f), h5⟩
    rcases h3 with ⟨g1, g2⟩ | g
    · exact .inl ⟨g1, sqL_of g2 fun o => e _ o (.inl g1)⟩
    · exact .inr g
/-- a context of that kind -/
structure IsR (K : PySem.W.Frag) (R : RW) (C : Ct) : Prop where
  M : ∀ a o, C.M a o ↔ (a = R.row ∨ ¬ NT o)
  I : ∀ H, C.I H ↔ rowI K R C.H0 H
  row : C.O0 R.row
theorem isR {K : PySem.W.Frag} {R : RW} {H0 : Hp} {O0 : Addr → Prop} {E : XK} {hO : O0 R.row} : IsR K R (ctR K R H0 O0 E hO) := ⟨fun _ _ => Iff.rfl, fun _ => Iff.rfl, hO⟩
/-- what a def that draws does: it raises nothing -/
def spR (K : PySem.W.Frag) (T : List (Addr × Str)) (n : Nat) (F : DSpec) : Sp := fun vs H Q _ => ∃ (R : RW) (O : Addr → Prop) (ws : List V) (ds : List PyData) (Qd : PyData → Prop), R.T = T ∧ vs = .ref R.row :: ws ∧ O R.row ∧ (∀ a, O a → NTd H a) ∧ ds.length = n ∧ DpAll K (hid O H) ws ds ∧ F ds Qd (fun _ => False) ∧
  rowI K R H H ∧ (∀ d, Qd d → ∀ v H', (∀ a o, H a = some o → ¬ (a = R.row ∨ ¬ NT o) → H' a = some o) → (∀ a, NTd H a → NTd H' a) → rowI K R H H' → Dp K (hid O H') v d → Q v H')
structure CalR (P : Program) (w : World) (K : PySem.W.Frag) (mg : Str → Option Value) (base : Heap) (T : List (Addr × Str)) (k : Nat) (x : Str) (n : Nat) (F : DSpec) : Prop where
  ex : ∃ (f : Addr) (fd : FuncData) (ps : List Str), FnOk P w K mg base (L2.CX P w) k f fd ps (spR K T n F) ∧ mg x = some (.ref f) ∧ PySem.W.keepIn K (.ref f) = true ∧ Binds K fd ps []
theorem CalR.mono {P : Program} {w : World} {K : PySem.W.Frag} {mg : Str → Option Value} {base : Heap} {T : List (Addr × Str)} {k k' : Nat} {x : Str} {n : Nat} {F : DSpec} (c : CalR P w K mg base T k x n F) (h : k ≤ k') : CalR P w K mg base T k' x n F := by
  obtain ⟨f, fd, ps, h1, h2, h3, h4⟩ := c.ex
  exact ⟨f, fd, ps, h1.mono h, h2, h3, h4⟩
theorem calR_mk {P : Program} {w : World} {K : PySem.W.Frag} {mg : Str → Option Value} {base : Heap} {T : List (Addr × Str)} {k n : Nat} {x qual : Str} {params : Arguments} {body : List Stmt} {scope : Scope} {f : Addr} {fd : FuncData} {ps : List Str} {F : DSpec}
    (Fd : FunD K x qual params body scope [] [] f fd) (h : FnOk P w K mg base (L2.CX P w) k f fd ps (spR K T n F)) (g : mg x = some (.ref f)) (hb : L2.Binds K fd ps []) : CalR P w K mg base T k x n F :=
  ⟨⟨f, fd, ps, h, g, Fd.kp, hb⟩⟩
theorem start_gen {K : PySem.W.Frag} {C : Ct} {H : Hp} {N : List Str} {vs : List V} {Γ : List Slot} (h0 : C.H0 = H) (hO : ∀ a, C.O0 a → NTd H a) (hI : C.I H) (hl : Γ.length = (L2.start N vs).length)
    (hs : ∀ (i : Nat) (s : Slot), Γ[i]? = some s → ∃ o, (L2.start N vs)[i]? = some o ∧ SlotOk K (hid C.O0 H) H s o none) : StOk K C Γ (L2.start N vs) (List.replicate (L2.start N vs).length none) H := by
  have nm : ∀ a, ¬ some a ∈ List.replicate (L2.start N vs).length (none : Option Addr) := fun a h => by
    have := List.eq_of_mem_replicate h
    cases this
  have eO : OO C (List.replicate (L2.start N vs).length none) = C.O0 := by
    funext a
    exact propext ⟨fun h => h.elim id fun z => (nm a z).elim, .inl⟩
  refine ⟨hl, by rw [List.length_replicate]; exact Nat.le_refl _, fun a h => (nm a h).elim, fun a o e _ => by rw [← h0]; exact e, fun a e => by rw [← h0]; exact e, fun a e => by rw [h0]; exact hO a e, hI, fun a h => (nm a h).elim, fun i j a e _ => (nm a (List.mem_of_getElem? e)).elim, fun i s e => ?_⟩
  obtain ⟨o, e1, e2⟩ := hs i s e
  rw [eO]
  exact ⟨o, none, e1, by rw [List.getElem?_replicate, if_pos (List.getElem?_eq_some_iff.mp e1).1], e2⟩
def slotsR (row : Addr) (ds : List PyData) (m : Nat) : List Slot := .raw (.ref row) :: (ds.map Slot.dat ++ List.replicate (m - 1 - ds.length) Slot.any)
section
variable {P : Program} {w : World} {K : PySem.W.Frag} {mg : Str → Option Value} {base : Heap}
structure BdR (X : Cx) (C : Ct) (k : Nat) : Prop where
  room : Room k X.A
  pass : Passes (L2.CX X.prog X.w) X C.E
  own : PassesOwn (model X.prog X.w) X.A X.env X.xe
/-- a def with its code object told -/
structure FunDC (K : PySem.W.Frag) (x qual : Str) (params : Arguments) (body : List Stmt) (scope : Scope) (f : Addr) (fd : FuncData) (cdv : Value) : Prop where
  ex : ∃ (oc : Value) (od : Option Addr) (dV kV doc pm : Value) (an : Option Addr) (ct : Value) (osl : Array (Option Value)),
    fd = PySem.W.fnOf x qual params body scope dV kV doc pm an cdv ct ∧ K.lookup f = some ⟨oc, od, .func fd, osl⟩ ∧ PySem.W.codeIn K cdv qual = true
  kp : PySem.W.keepIn K (.ref f) = true
theorem FunDC.of {x qual : Str} {params : Arguments} {body : List Stmt} {scope : Scope} {f : Addr} {fd : FuncData} (F : FunD K x qual params body scope [] [] f fd) : ∃ cdv, FunDC K x qual params body scope f fd cdv := by
  obtain ⟨oc, od, dV, kV, doc, pm, an, cdv, ct, osl, h1, h2, h3, _⟩ := F.ex
  exact ⟨cdv, ⟨oc, od, dV, kV, doc, pm, an, ct, osl, h1, h2, h3⟩, F.kp⟩
/-- a def that draws keeps its promise -/
theorem def_okRC {x qual : Str} {params : Arguments} {body : List Stmt} {scope : Scope} {f : Addr} {fd : FuncData} {N ps : List Str} {k n : Nat} {T : List (Addr × Str)} {F : DSpec} {cdv : Value} (Fd : FunDC K x qual params body scope f fd cdv) (S : FnScope N ps scope) (hn : n + 1 = ps.length) (hN : Nat.ble ps.length N.length = true)
    (hb : ∀ (A : Around) (outer : List Env) (s : Shared) (R : RW) (C : Ct) (H0 : Hp) (E : XK) (ds : List PyData) (Qd : PyData → Prop), R.T = T → IsR K R C → ds.length = n → F ds Qd (fun _ => False) →
      BdR (cxOf (L2.CX P w) P w K mg base N qual scope f cdv A outer s H0 E) C k →
      WS (cxOf (L2.CX P w) P w K mg base N qual scope f cdv A outer s H0 E) C (slotsR R.row ds N.length) body ⟨fun _ => Qd .none, rtD K C Qd, fun _ => False, fun _ => False⟩) :
    FnOk P w K mg base (L2.CX P w) (k + 1) f fd ps (spR K T n F) := by
  obtain ⟨oc, od, dV, kV, doc, pm, an, ct, osl, rfl, lk, hcd⟩ := Fd.ex
  refine fn_of lk hcd S (fun vs H Q E h => ?_) fun A outer s H vs Q E hr h => ?_
  · obtain ⟨R, O, ws, ds, Qd, _, h1, _, _, h2, h3, _⟩ := h
    rw [h1, List.length_cons, dpAll_len h3, h2, hn]
  obtain ⟨R, O, ws, ds, Qd, hT, rfl, hO, hO2, hl, r, hF, hI, q⟩ := h
  have hN' := Nat.le_of_ble_eq_true hN
  have lw := dpAll_len r
  have tk : Takes (cxOf (L2.CX P w) P w K mg base N qual scope f cdv A outer s H E) (fun cls d _ H' => E cls d H') := takes_of rfl rfl rfl rfl
  have B : BdR (cxOf (L2.CX P w) P w K mg base N qual scope f cdv A outer s H E) (ctR K R H O E hO) k := ⟨hr, passes_call tk fun _ _ _ _ z => z, passes_of rfl⟩
  have ls : (L2.start N (.ref R.row :: ws)).length = N.length := by
    unfold L2.start
    simp only [List.length_append, List.length_map, List.length_replicate, List.length_cons]
    omega
  have S0 : StOk K (ctR K R H O E hO) (slotsR R.row ds N.length) (L2.start N (.ref R.row :: ws)) (List.replicate (L2.start N (.ref R.row :: ws)).length none) H := by
    refine start_gen rfl hO2 hI ?_ fun i s e => ?_
    · rw [ls]
      unfold slotsR
      simp only [List.length_cons, List.length_append, List.length_map, List.length_replicate]
      omega
    · have hs : i < N.length := by
        have := (List.getElem?_eq_some_iff.mp e).1
        unfold slotsR at this
        simp only [List.length_cons, List.length_append, List.length_map, List.length_replicate] at this
        omega
      have st : (L2.start N (.ref R.row :: ws))[i]? = some (((V.ref R.row :: ws)[i]?)) := by
        unfold L2.start
        by_cases h : i < (V.ref R.row :: ws).length
        · rw [List.getElem?_append_left (by rw [List.length_map]; exact h), List.getElem?_map, List.getElem?_eq_getElem h]
          rfl
        · rw [List.getElem?_append_right (by rw [List.length_map]; omega), List.getElem?_replicate, if_pos (by rw [List.length_map]; omega), List.getElem?_eq_none (by omega)]
      refine ⟨_, st, ?_⟩
      cases i with
      | zero => cases e; exact ⟨rfl, rfl⟩
      | succ i =>
        have e : (ds.map Slot.dat ++ List.replicate (N.length - 1 - ds.length) Slot.any)[i]? = some s := e
        show SlotOk _ _ _ s (ws[i]?) none
        by_cases hi : i < ds.length
        · rw [List.getElem?_append_left (by rw [List.length_map]; exact hi), List.getElem?_map, List.getElem?_eq_getElem hi] at e
          have e' : Slot.dat ds[i] = s := Option.some.inj e
          subst e'
          obtain ⟨v, hv, dv⟩ := dpAll_get r (List.getElem?_eq_getElem hi)
          rw [hv]
          exact ⟨rfl, v, rfl, dv⟩
        · rw [List.getElem?_append_right (by rw [List.length_map]; omega), List.length_map, List.getElem?_replicate] at e
          split at e
          · have e' : Slot.any = s := Option.some.inj e
            subst e'
            exact rfl
          · cases e
  refine ⟨_, pss_can, fun pins s' I => ?_⟩
  refine wpAny_mono (hb A outer s R (ctR K R H O E hO) H E ds Qd hT isR hl hF B _ _ H S0 pins s' I) (fun fl s2 z => ?_) fun _ _ z => z
  cases fl with
  | next =>
    obtain ⟨σ', H', I', Γ', ps', S', _, z⟩ := z
    exact ⟨σ', H', I', q .none z .non H' S'.fr S'.dom S'.inv .non⟩
  | brk => obtain ⟨_, _, _, _, _, _, _, z⟩ := z; exact z.elim
  | cont => obtain ⟨_, _, _, _, _, _, _, z⟩ := z; exact z.elim
  | ret u =>
    obtain ⟨v, σ', H', I', rv, en, d, hd, dv⟩ := z
    exact ⟨v, σ', H', I', rv, q d hd v H' en.fr en.dom en.inv dv⟩
theorem def_okR {x qual : Str} {params : Arguments} {body : List Stmt} {scope : Scope} {f : Addr} {fd : FuncData} {N ps : List Str} {k n : Nat} {T : List (Addr × Str)} {F : DSpec} (Fd : FunD K x qual params body scope [] [] f fd) (S : FnScope N ps scope) (hn : n + 1 = ps.length) (hN : Nat.ble ps.length N.length = true)
    (hb : ∀ (cdv : Value) (A : Around) (outer : List Env) (s : Shared) (R : RW) (C : Ct) (H0 : Hp) (E : XK) (ds : List PyData) (Qd : PyData → Prop), R.T = T → IsR K R C → ds.length = n → F ds Qd (fun _ => False) →
      BdR (cxOf (L2.CX P w) P w K mg base N qual scope f cdv A outer s H0 E) C k →
      WS (cxOf (L2.CX P w) P w K mg base N qual scope f cdv A outer s H0 E) C (slotsR R.row ds N.length) body ⟨fun _ => Qd .none, rtD K C Qd, fun _ => False, fun _ => False⟩) :
    FnOk P w K mg base (L2.CX P w) (k + 1) f fd ps (spR K T n F) := by
  obtain ⟨cdv, Fc⟩ := FunDC.of Fd
  exact def_okRC Fc S hn hN (hb cdv)
end
section
variable {X : Cx} {C : Ct} {Γ : List Slot} {e a b c : Expr} {es : List Expr} {d : PyData} {ds : List PyData} {pos p : Pos} {x : Str} {R : RW} {T : List (Addr × Str)} {k n : Nat} {F : DSpec} {Qd P P' : PyData → Prop} {Ps : List PyData → Prop}
/-- arguments, data of which something is known -/
def GAN (X : Cx) (C : Ct) (Γ : List Slot) (es : List Expr) (Ps : List PyData → Prop) : Prop := GA X C Γ es fun ps _ H' vs => ∃ ds, Ps ds ∧ DpAll X.K (hid (OO C ps) H') vs ds
def consP (P : PyData → Prop) (Ps : List PyData → Prop) : List PyData → Prop
  | d :: ds => P d ∧ Ps ds
  | [] => False
def nilP : List PyData → Prop
  | [] => True
  | _ => False
theorem gan_nil : GAN X C Γ [] nilP := ga_of pa_nil fun σ ps H S Q q => q [] H (.refl S.inv) ⟨[], trivial, .nil⟩
theorem gan_cons (ha : GN X C Γ e P) (hr : GAN X C Γ es Ps) (hs : starEach (e :: es) X.env = (false, eval e X.env) :: starEach es X.env := by rfl) : GAN X C Γ (e :: es) (consP P Ps) :=
  ga_of (pa_cons pe_can pa_can hs) fun σ ps H S Q q => ha σ ps H S _ fun v H1 t1 ⟨d, hd, r1⟩ => hr σ ps H1 (S.step t1) _ fun vs H2 t2 ⟨ds, hds, r2⟩ =>
    q (v :: vs) H2 (t1.trans t2) ⟨d :: ds, ⟨hd, hds⟩, .cons (dp_mono t2.hid r1) r2⟩
theorem gan_ga (h : GAs X C Γ es ds) : GAN X C Γ es (fun z => z = ds) := fun σ ps H S Q q => h σ ps H S Q fun vs H1 t1 r1 => q vs H1 t1 ⟨ds, rfl, r1⟩
theorem gan_imp {Ps' : List PyData → Prop} (h : GAN X C Γ es Ps) (i : ∀ ds, Ps ds → Ps' ds) : GAN X C Γ es Ps' := fun σ ps H S Q q => h σ ps H S Q fun vs H1 t1 ⟨ds, hd, r1⟩ => q vs H1 t1 ⟨ds, i ds hd, r1⟩
theorem gn_tup {k} (h : GAN X C Γ es Ps) (hl : ∀ ds, Ps ds → ds.length ≤ 1000000) (hq : ∀ ds, Ps ds → P (.tuple ds)) : GN X C Γ (.Tuple es k pos) P :=
  gx_of (pe_tup pa_can) fun σ ps H S Q q => h σ ps H S _ fun vs H1 t1 ⟨ds, hd, r1⟩ => ⟨by rw [dpAll_len r1]; exact line_le (hl ds hd), fun p hp => by
    have S1 := S.step t1
    refine q _ _ (t1.trans (.new S1 hp)) ⟨_, hq ds hd, Dp.tup (.inl (.inl ?_)) (dpAll_mono (hid_new hp) r1)⟩
    exact hid_is ((S1.freshN hp).1) upd_same trivial⟩
/-- integers of which something is known -/
def GNI (X : Cx) (C : Ct) (Γ : List Slot) (e : Expr) (P : Int → Prop) : Prop := GX X C Γ e fun _ _ _ v => ∃ i, v = .int i ∧ P i
theorem gni_ge {i : Int} {P : Int → Prop} (h : GE X C Γ e (.int i)) (hp : P i) : GNI X C Γ e P := gx_imp h fun _ _ _ _ _ _ _ r => ⟨i, dp_int r, hp⟩
theorem gni_gn {P : Int → Prop} (h : GN X C Γ e fun d => ∃ i, d = .int i ∧ P i) : GNI X C Γ e P := gx_imp h fun _ _ _ _ _ _ _ ⟨d, ⟨i, e, hp⟩, r⟩ => ⟨i, dp_int (e ▸ r), hp⟩
theorem gn_gni {P : Int → Prop} {P2 : PyData → Prop} (h : GNI X C Γ e P) (hp : ∀ i, P i → P2 (.int i)) : GN X C Γ e P2 := gx_imp h fun _ _ _ _ _ _ _ ⟨i, e, q⟩ => ⟨_, hp i q, by rw [e]; exact .int i⟩
theorem gni_imp {P P' : Int → Prop} (h : GNI X C Γ e P) (hp : ∀ i, P i → P' i) : GNI X C Γ e P' := gx_imp h fun _ _ _ _ _ _ _ ⟨i, e, q⟩ => ⟨i, e, hp i q⟩
theorem gni_op0 {op : Operator} {g : Int → Int → Int} {Pa Pb P : Int → Prop} (ho : OpR X (binaryOp op) (rI0 fun i j => .int (g i j))) (ha : GNI X C Γ a Pa) (hb : GNI X C Γ b Pb) (hp : ∀ i j, Pa i → Pb j → P (g i j)) : GNI X C Γ (.BinOp a op b pos) P :=
  gx_op ho ha hb fun σ ps H H1 H2 x y S t2 ⟨i, ei, pi⟩ ⟨j, ej, pj⟩ Q q => ⟨i, j, ei, ej, q _ H2 (.refl S.inv) ⟨_, rfl, hp i j pi pj⟩⟩
theorem gni_add {Pa Pb P : Int → Prop} (ha : GNI X C Γ a Pa) (hb : GNI X C Γ b Pb) (hp : ∀ i j, Pa i → Pb j → P (i + j)) : GNI X C Γ (.BinOp a .Add b pos) P := gni_op0 op_add ha hb hp
theorem gni_sub {Pa Pb P : Int → Prop} (ha : GNI X C Γ a Pa) (hb : GNI X C Γ b Pb) (hp : ∀ i j, Pa i → Pb j → P (i - j)) : GNI X C Γ (.BinOp a .Sub b pos) P := gni_op0 op_sub ha hb hp
/-- tests of which nothing is known -/
def GTN (X : Cx) (C : Ct) (Γ : List Slot) (e : Expr) (P : Bool → Prop) : Prop :=
  ∀ σ ps H, StOk X.K C Γ σ ps H → ∀ Q : Bool → Hp → Prop, (∀ z H', P z → Stp C H H' → Q z H') → ttcan X e σ H Q
end
end Fw
namespace Fw
open PySem PySem.Spec PyProof.Rows L2
section
variable {X : Cx} {C : Ct} {Γ : List Slot} {e a b c tg iter : Expr} {es : List Expr} {body els : List Stmt} {d : PyData} {ds : List PyData} {pos p p2 : Pos} {x y : Str} {R : RW} {T : List (Addr × Str)} {k n : Nat} {F : DSpec} {Qd P P' : PyData → Prop} {Ps : List PyData → Prop} {Q : PQ} {CB : Addr}
/-- f(row, ..) -/
theorem gn_callR (IR : IsR X.K R C) (hT : R.T = T) (Ca : CalR X.prog X.w X.K X.mg X.base T k x n F) (hr : Room k X.A) (i : Nat) (ha : GAN X C Γ es Ps) (hF : ∀ ds, Ps ds → ds.length = n ∧ F ds Qd (fun _ => False)) (h : Γ[i]? = some (.raw (.ref R.row)) := by rfl) (hg : Gl X x := by rfl) (hdb : (x == ("__debug__" : Str)) = false := by decide)
    (hN : X.N[i]? = some y := by rfl) (hv : Vis X.env.scope y := by first | exact Or.inl rfl | exact Or.inr (Or.inl rfl) | exact Or.inr (Or.inr rfl)) (hd : (y == ("__debug__" : Str)) = false := by decide) (hcd : (y == ("__classdict__" : Str)) = false := by decide)
    (he : starEach (.Name y p2 :: es) X.env = (false, eval (.Name y p2) X.env) :: starEach es X.env := by rfl) (hpl : (backTo pos (starEach es X.env)).any (·.1) = false := by rfl) : GN X C Γ (.Call (.Name x p) (.Name y p2 :: es) [] pos) Qd := by
  obtain ⟨f, fd, ps, h1, h2, h3, h4⟩ := Ca.ex
  refine gx_of (pe_call h1 hr hg h2 h3 h4 .nil passL (pa_cons (pe_var hN hv hd hcd) pa_can he) hdb he hpl) fun σ ps H S Q q => ?_
  refine ⟨.ref R.row, S.getR h, ha σ ps H S _ fun ws H1 t1 ⟨ds, hds, r1⟩ => ?_⟩
  obtain ⟨g1, g2⟩ := hF ds hds
  have S1 := S.step t1
  rw [List.append_nil]
  have hI := (IR.I H1).mp t1.inv
  refine ⟨R, OO C ps, ws, ds, Qd, hT, rfl, .inl IR.row, fun a z => ?_, g1, r1, g2, ⟨hI.row, ?_, hI.tab, by obtain ⟨i, s, c, h1, _⟩ := hI.row; exact ⟨_, h1, trivial⟩⟩, fun d hd v H' fr dom rI dv => ?_⟩
  · rcases z with z | z
    · exact S1.dom a (S1.od a z)
    · exact S1.th a z
  · rcases hI.scr with ⟨g1, g2⟩ | g
    · exact .inl ⟨S1.dom _ g1, g2⟩
    · exact .inr g
  · refine q v H' (t1.trans ⟨fun a o e n => fr a o e fun z => n ((IR.M a o).mpr z), dom, (IR.I H').mpr ⟨rI.row, ?_, rI.tab, hI.old⟩⟩) ⟨d, hd, dv⟩
    rcases hI.scr with ⟨g1, _⟩ | g
    · exact .inl ⟨g1, rI.scr.sq⟩
    · exact .inr g
def F_taken : DSpec := fun ds Qd _ => ∃ m, ds = [.int m] ∧ 0 < m ∧ m < 1073741824 ∧ ∀ r, 0 ≤ r → r < m → Qd (.int r)
def F_pick : DSpec := fun ds Qd _ => ∃ xs, ds = [.list xs] ∧ xs ≠ [] ∧ xs.length ≤ 1000000 ∧ ∀ d ∈ xs, Qd d
theorem gni_taken {Pm Pr : Int → Prop} (IR : IsR X.K R C) (hT : R.T = T) (Ca : CalR X.prog X.w X.K X.mg X.base T k "_law_taken" 1 F_taken) (hr : Room k X.A) (i : Nat) (ha : GNI X C Γ e Pm) (hp : ∀ m, Pm m → 0 < m ∧ m < 1073741824 ∧ ∀ r, 0 ≤ r → r < m → Pr r) (h : Γ[i]? = some (.raw (.ref R.row)) := by rfl) (hg : Gl X "_law_taken" := by rfl)
    (hN : X.N[i]? = some y := by rfl) (hv : Vis X.env.scope y := by first | exact Or.inl rfl | exact Or.inr (Or.inl rfl) | exact Or.inr (Or.inr rfl)) (hd : (y == ("__debug__" : Str)) = false := by decide) (hcd : (y == ("__classdict__" : Str)) = false := by decide)
    (he : starEach [.Name y p2, e] X.env = (false, eval (.Name y p2) X.env) :: starEach [e] X.env := by rfl) (he2 : starEach [e] X.env = (false, eval e X.env) :: starEach [] X.env := by rfl) (hpl : (backTo pos (starEach [e] X.env)).any (·.1) = false := by rfl) : GNI X C Γ (.Call (.Name "_law_taken" p) [.Name y p2, e] [] pos) Pr :=
  gni_gn (gn_callR IR hT Ca hr i (gan_cons (gn_gni (P2 := fun d => ∃ m, d = .int m ∧ Pm m) ha fun m hm => ⟨m, rfl, hm⟩) gan_nil he2) (fun ds hds => by
    match ds, hds with
    | [_], ⟨⟨m, rfl, hm⟩, _⟩ => exact ⟨rfl, m, rfl, (hp m hm).1, (hp m hm).2.1, fun r r0 r1 => ⟨r, rfl, (hp m hm).2.2 r r0 r1⟩⟩
    | [], h => exact h.elim
    | _ :: _ :: _, ⟨_, h⟩ => exact h.elim) h hg (by decide) hN hv hd hcd he hpl)
theorem gn_pick (IR : IsR X.K R C) (hT : R.T = T) (Ca : CalR X.prog X.w X.K X.mg X.base T k "_law_pick" 1 F_pick) (hr : Room k X.A) (i : Nat) (ha : GE X C Γ e (.list ds)) (hne : ds ≠ []) (hl : ds.length ≤ 1000000) (hq : ∀ d ∈ ds, P d) (h : Γ[i]? = some (.raw (.ref R.row)) := by rfl) (hg : Gl X "_law_pick" := by rfl)
    (hN : X.N[i]? = some y := by rfl) (hv : Vis X.env.scope y := by first | exact Or.inl rfl | exact Or.inr (Or.inl rfl) | exact Or.inr (Or.inr rfl)) (hd : (y == ("__debug__" : Str)) = false := by decide) (hcd : (y == ("__classdict__" : Str)) = false := by decide)
    (he : starEach [.Name y p2, e] X.env = (false, eval (.Name y p2) X.env) :: starEach [e] X.env := by rfl) (he2 : starEach [e] X.env = (false, eval e X.env) :: starEach [] X.env := by rfl) (hpl : (backTo pos (starEach [e] X.env)).any (·.1) = false := by rfl) : GN X C Γ (.Call (.Name "_law_pick" p) [.Name y p2, e] [] pos) P :=
  gn_callR IR hT Ca hr i (gan_cons (gn_ge (P := fun d => d = .list ds) ha rfl) gan_nil he2) (fun es hds => by
    match es, hds with
    | [_], ⟨h, _⟩ => exact ⟨rfl, ds, by rw [h], hne, hl, hq⟩
    | [], h => exact h.elim
    | _ :: _ :: _, ⟨_, h⟩ => exact h.elim) h hg (by decide) hN hv hd hcd he hpl
theorem gtn_gt {z : Bool} {Pb : Bool → Prop} (h : GT X C Γ e z) (hp : Pb z) : GTN X C Γ e Pb := fun σ ps H S Q q => h σ ps H S Q fun H1 t1 => q z H1 hp t1
theorem gtn_val {Pb : Bool → Prop} (ha : GN X C Γ e fun d => ∃ z, d = .bool z ∧ Pb z) (he : ∀ whole, isTrue e X.env whole = (do let v ← whole; standAt e.pos; holding [v] (truthy v)) := by intro _; rfl) : GTN X C Γ e Pb := fun σ ps H S Q q pins s I => by
  refine (pt_val pe_can he).run pins s σ H Q I (ha σ ps H S _ fun v H1 t1 ⟨d, ⟨z, e1, hz⟩, r⟩ => ?_)
  subst e1
  rw [dp_bool r]
  exact ⟨_, rfl, q z H1 hz t1⟩
theorem gtn_cmpI {op : CmpOp} {g : Int → Int → Bool} {Pa Pb : Int → Prop} {Pz : Bool → Prop} (ho : OpR X (compareOp op) (rI0 fun i j => .bl (g i j))) (ha : GNI X C Γ a Pa) (hb : GNI X C Γ b Pb) (hp : ∀ i j, Pa i → Pb j → Pz (g i j)) (hm : behindInMarks op b = false := by exact nomark _) : GTN X C Γ (.Compare a [op] [b] pos) Pz := fun σ ps H S Q q pins s I =>
  (pt_cmpR ho pe_can pe_can hm).run pins s σ H Q I (ha σ ps H S _ fun x H1 t1 ⟨i, ei, pi⟩ => hb σ ps H1 (S.step t1) _ fun y H2 t2 ⟨j, ej, pj⟩ => ⟨i, j, ei, ej, ⟨_, rfl, q _ H2 (hp i j pi pj) (t1.trans t2)⟩⟩)
theorem gtn_eqI {Pa Pb : Int → Prop} {Pz : Bool → Prop} (ha : GNI X C Γ a Pa) (hb : GNI X C Γ b Pb) (hp : ∀ i j, Pa i → Pb j → Pz (decide (i = j))) : GTN X C Γ (.Compare a [.Eq] [b] pos) Pz := fun σ ps H S Q q pins s I =>
  (pt_cmpR op_eq pe_can pe_can (nomark _)).run pins s σ H Q I (ha σ ps H S _ fun x H1 t1 ⟨i, ei, pi⟩ => hb σ ps H1 (S.step t1) _ fun y H2 t2 ⟨j, ej, pj⟩ => by
    subst ei; subst ej
    refine ⟨rfl, _, rfl, q _ H2 ?_ (t1.trans t2)⟩
    rw [dec_vi]
    exact hp i j pi pj)
theorem gtn_not {Pz : Bool → Prop} (h : GTN X C Γ e fun z => Pz (!z)) : GTN X C Γ (.UnaryOp .Not e pos) Pz := fun σ ps H S Q q pins s I =>
  (pt_not pt_can).run pins s σ H Q I (h σ ps H S _ fun z H1 hz t1 => q _ H1 hz t1)
theorem w1_ifN {Pz : Bool → Prop} (hc : GTN X C Γ c Pz) (h1 : Pz true → WS X C Γ body Q) (h2 : Pz false → WS X C Γ els Q) : W1 X C Γ (.If c body els pos) Q :=
  w1_of (ps_if pt_can pss_can pss_can) fun σ ps H S => hc σ ps H S _ fun z H1 hz t1 => by
    have S1 := S.step t1
    cases z with
    | true => exact fun pins s I => wpAny_mono (h1 hz σ ps H1 S1 pins s I) (fun f s2 q => ends_frm (.stp t1) q) fun _ _ z => z
    | false => exact fun pins s I => wpAny_mono (h2 hz σ ps H1 S1 pins s I) (fun f s2 q => ends_frm (.stp t1) q) fun _ _ z => z
theorem gn_iteN {Pz : Bool → Prop} (hc : GTN X C Γ c Pz) (h1 : Pz true → GN X C Γ a P) (h2 : Pz false → GN X C Γ b P) : GN X C Γ (.IfExp c a b pos) P := fun σ ps H S Q q pins s I =>
  (pe_ifExp pt_can pe_can pe_can).run pins s σ H Q I (hc σ ps H S _ fun z H1 hz t1 => by
    have S1 := S.step t1
    cases z with
    | true =>
      show tcan X a σ H1 Q
      exact h1 hz σ ps H1 S1 _ fun v H2 t2 r => q v H2 (t1.trans t2) r
    | false =>
      show tcan X b σ H1 Q
      exact h2 hz σ ps H1 S1 _ fun v H2 t2 r => q v H2 (t1.trans t2) r)
def GIN (X : Cx) (C : Ct) (Γ : List Slot) (tg iter : Expr) (Ps : List PyData → Prop) : Prop :=
  ∀ σ ps H, StOk X.K C Γ σ ps H → ∀ R : It → Hp → Prop, (∀ ds J H1, Ps ds → Stp C H H1 → Yld X.K (OO C ps) J ds H1 → R J H1) → ican X tg iter σ H R
theorem gin_gi (h : GI X C Γ tg iter ds) : GIN X C Γ tg iter (fun z => z = ds) := fun σ ps H S R q => h σ ps H S R fun J H1 t1 y => q ds J H1 rfl t1 y
theorem gin_range1 {Pm : Int → Prop} (hm : X.mg "range" = none) (h : GNI X C Γ a Pm) (hp : ∀ m, Pm m → m ≤ 1000000000 ∧ -1000000000 ≤ m) (hg : Gl X "range" := by rfl) (hs : starEach [a] X.env = [(false, eval a X.env)] := by rfl) : GIN X C Γ tg (.Call (.Name "range" p) [a] [] pos) (fun z => ∃ m, Pm m ∧ z = rngD 0 m.toNat) := fun σ ps H S R q pins s I =>
  (pi_range1 hg hm (pa_cons pe_can pa_nil hs) hs).run pins s σ H R I (h σ ps H S _ fun v H1 t1 ⟨m, e, hm⟩ => by
    have := hp m hm
    exact ⟨m, by rw [e], by omega, by omega, q _ _ H1 ⟨m, hm, rfl⟩ t1 yld_rng⟩)
theorem w1_forN (Iv : List PyData → Nat → List Slot → Prop) (hp : PassesOwn (model X.prog X.w) X.A X.env X.xe) (hc : X.calm = true) (hi : GIN X C Γ tg iter Ps) (h0 : ∀ ds, Ps ds → Iv ds 0 Γ)
    (hs : ∀ ds, Ps ds → ∀ (i : Nat) d Γ1, ds[i]? = some d → Iv ds i Γ1 → ∃ Γ2 is, GG X C Γ1 tg d Γ2 is ∧ WS X C Γ2 body { Q with nx := fun Γ' => ∃ Γ'', Wk Γ' Γ'' ∧ Iv ds (i + 1) Γ'', ct := fun Γ' => ∃ Γ'', Wk Γ' Γ'' ∧ Iv ds (i + 1) Γ'', bk := Q.nx })
    (hd : ∀ ds, Ps ds → ∀ Γ', Iv ds ds.length Γ' → Q.nx Γ') (hf : ∀ x, foldedSetIterable iter X.env x = pure x := by intro _; rfl) : W1 X C Γ (.For tg iter body [] pos) Q :=
  w1_of (ps_for hp hc pi_can pg_can pss_can hf) fun σ ps H S => hi σ ps H S _ fun ds J H1 hds t1 Y => by
    have S1 := S.step t1
    refine ⟨fun i m σ' H' => m = ds.length - i ∧ i ≤ ds.length ∧ ∃ Γ' ps', StOk X.K C Γ' σ' ps' H' ∧ Frm C ps H1 ps' H' ∧ Iv ds i Γ', ⟨ds.length, by simp, Nat.zero_le _, Γ, ps, S1, .refl, h0 ds hds⟩, ?_⟩
    rintro i m σ' H' ⟨rfl, hle, Γ', ps', S', F', iv⟩
    have yy := Y (OO C ps') H' (fun a o e nt n => F'.keep a o e nt n) F'.owns (fun a z => by
      rcases z with z | z
      · exact S'.dom a (S'.od a z)
      · exact S'.th a z)
    by_cases hlt : i < ds.length
    · obtain ⟨go, yld⟩ := yy.1 i ds[i] (List.getElem?_eq_getElem hlt)
      obtain ⟨Γ2, is, gg, ws⟩ := hs ds hds i ds[i] Γ' (List.getElem?_eq_getElem hlt) iv
      have ws : WS X C Γ2 body { Q with nx := Iv ds (i + 1), ct := Iv ds (i + 1), bk := Q.nx } := ws_wkE (ws_wkC ws)
      refine .inr ⟨go, Hold X.K C ps H1 (Iv ds (i + 1)), fun σ2 H2 ⟨Γ3, ps3, S3, F3, iv3⟩ => ⟨ds.length - (i + 1), by omega, rfl, hlt, Γ3, ps3, S3, F3, iv3⟩, fun x H3 y => ?_⟩
      obtain ⟨sm, dx⟩ := yld x H3 y
      have t3 : Stp C H' H3 := .same S' sm
      refine gg σ' ps' H3 x (S'.step t3) dx _ fun σ4 S4 _ _ => ?_
      intro pins s I
      refine wpAny_mono (ws σ4 ps' H3 S4 pins s I) (fun f s2 q => ?_) fun _ _ z => z
      have F4 : Frm C ps H1 ps' H3 := F'.trans (.stp t3)
      cases f with
      | next => obtain ⟨σ5, H5, I5, Γ5, ps5, S5, F5, q⟩ := q; exact ⟨σ5, H5, I5, Γ5, ps5, S5, F4.trans F5, q⟩
      | cont => obtain ⟨σ5, H5, I5, Γ5, ps5, S5, F5, q⟩ := q; exact ⟨σ5, H5, I5, Γ5, ps5, S5, F4.trans F5, q⟩
      | brk => obtain ⟨σ5, H5, I5, Γ5, ps5, S5, F5, q⟩ := q; exact ⟨σ5, H5, I5, Γ5, ps5, S5, (Frm.stp t1).trans (F4.trans F5), q⟩
      | ret v => exact q
    · have e : i = ds.length := by omega
      subst e
      exact .inl ⟨yy.2, Γ', ps', S', (Frm.stp t1).trans F', hd ds hds Γ' iv⟩
structure CalK (P : Program) (w : World) (K : PySem.W.Frag) (mg : Str → Option Value) (base : Heap) (CB : Addr) (k : Nat) (x : Str) (n : Nat) (kw : Str) (F : DSpec) : Prop where
  ex : ∃ (f : Addr) (fd : FuncData) (ps : List Str), FnOk P w K mg base (L2.CX P w) k f fd ps (spP K CB (n + 1) F) ∧ mg x = some (.ref f) ∧ PySem.W.keepIn K (.ref f) = true ∧ KBn K fd ps n [kw] (fun us ws => us ++ ws) (fun vs zs => vs ++ zs)
theorem kb0 {K : PySem.W.Frag} {x qual kw : Str} {params : Arguments} {body : List Stmt} {scope : Scope} {f : Addr} {fd : FuncData} {ps : List Str} (F : FunD K x qual params body scope [] [] f fd) (n : Nat)
    (h : ∀ (kV doc pm : Value) (an : Option Addr) (cdv ct : Value) (us : List Value) (w : Value), us.length = n → bindArgs (PySem.W.fnOf x qual params body scope .none kV doc pm an cdv ct) ⟨us, [(kw, w)]⟩ = pure (ps.zip (us ++ [w]))) : KBn K fd ps n [kw] (fun us ws => us ++ ws) (fun vs zs => vs ++ zs) := by
  obtain ⟨oc, od, dV, kV, doc, pm, an, cdv, ct, osl, rfl, lk, hcd, hD, hK⟩ := F.ex
  refine ⟨fun s us ws X l1 l2 => ?_, fun r1 r2 => r1.append r2⟩
  rcases hD with ⟨_, rfl⟩ | ⟨e, _⟩
  · match ws, l2 with
    | [w], _ => exact .of_eq (h kV doc pm an cdv ct us w l1)
    | [], h => cases h
    | _ :: _ :: _, h => cases h
  · exact absurd rfl e
/-- f(e, .., kw = a) -/
theorem gn_callK {kp : Pos} {kw : Str} (Ca : CalK X.prog X.w X.K X.mg X.base CB k x n kw F) (hr : Room k X.A) (ha : GAs X C Γ (e :: es) ds) (hk : GE X C Γ a d) (hF : F (ds ++ [d]) Qd (fun _ => False)) (hn : ds.length = n := by rfl) (hg : Gl X x := by rfl) (hdb : (x == ("__debug__" : Str)) = false := by decide)
    (hall : (backToKw pos (keywordEach [⟨some kw, a, kp⟩] X.env)).all (·.1.isSome) = true := by rfl) (hks : (backToKw pos (keywordEach [⟨some kw, a, kp⟩] X.env)).filterMap (·.1) = [kw] := by rfl)
    (he : starEach (e :: es) X.env = (false, eval e X.env) :: starEach es X.env := by rfl)
    (hpl : ((backTo pos (starEach (e :: es) X.env)).any (·.1) || (backToKw pos (keywordEach [⟨some kw, a, kp⟩] X.env)).any (·.1.isNone)) = false := by rfl) : GN X C Γ (.Call (.Name x p) (e :: es) [⟨some kw, a, kp⟩] pos) Qd := by
  obtain ⟨f, fd, ps, h1, h2, h3, h4⟩ := Ca.ex
  refine gx_of (pe_callN h1 hr hg h2 h3 h4 passL pa_can (pk_cons pe_can pk_nil) hall hks hdb he hpl) fun σ ps H S Q q => ha σ ps H S _ fun vs H1 t1 r1 => hk σ ps H1 (S.step t1) _ fun z H2 t2 r2 => ?_
  have S2 := (S.step t1).step t2
  have r3 : DpAll X.K (hid (OO C ps) H2) (vs ++ [z]) (ds ++ [d]) := dpAll_app (dpAll_mono t2.hid r1) (.cons r2 .nil)
  exact ⟨by rw [dpAll_len r1]; exact hn, rfl, spP_mk S2 r3 (by rw [List.length_append, hn]; rfl) hF (fun v H' t r => q v H' ((t1.trans t2).trans t) r) fun _ z => z.elim⟩
end
end Fw
namespace Fw
open PySem PySem.Spec PyProof.Rows L2
section
variable {X : Cx} {e a b c : Expr} {σ : L2.St} {H : Hp} {v : V} {vs : List V} {pos p : Pos} {x : Str} {st : Stmt} {rest body els : List Stmt} {D : Ends} {r : Addr}
/-- at this state e has the value v, and nothing changes -/
def EV (X : Cx) (e : Expr) (σ : L2.St) (H : Hp) (v : V) : Prop := ∀ Q : VK, Q v H → tcan X e σ H Q
def TV (X : Cx) (e : Expr) (σ : L2.St) (H : Hp) (z : Bool) : Prop := ∀ Q : Bool → Hp → Prop, Q z H → ttcan X e σ H Q
theorem ev_of {t : TE} (h : PE X e t) (k : ∀ Q : VK, Q v H → t σ H Q) : EV X e σ H v := fun Q q pins s I => h.run pins s σ H Q I (k Q q)
theorem ev_var (i : Nat) (h : σ[i]? = some (some v)) (hN : X.N[i]? = some x := by rfl) (hv : Vis X.env.scope x := by first | exact Or.inl rfl | exact Or.inr (Or.inl rfl) | exact Or.inr (Or.inr rfl))
    (hd : (x == ("__debug__" : Str)) = false := by decide) (hcd : (x == ("__classdict__" : Str)) = false := by decide) : EV X (.Name x p) σ H v := ev_of (pe_var hN hv hd hcd) fun Q q => ⟨v, h, q⟩
theorem ev_int {i : Int} {j} : EV X (.Constant (.int i) j pos) σ H (.int i) := ev_of pe_int fun Q q => q
theorem ev_ix {i : Int} {a1 : Addr} (ha : EV X a σ H (.ref a1)) (hl : SqL X.K H a1 vs) (hb : EV X b σ H (.int i)) (h : atI vs i = some v) (hs : PlainIx b := by exact fun _ _ => rfl) : EV X (.Subscript a b pos) σ H v :=
  ev_of (pe_ix ix_list pe_can pe_can hs) fun Q q => ha _ (hb _ ⟨a1, vs, i, v, rfl, rfl, hl, h, q⟩)
theorem ev_opI {op : Operator} {P : Int → Int → Prop} {g : Int → Int → V} {i j : Int} (ho : OpR X (binaryOp op) (rI P g)) (ha : EV X a σ H (.int i)) (hb : EV X b σ H (.int j)) (hp : P i j) : EV X (.BinOp a op b pos) σ H (g i j) :=
  ev_of (pe_op ho pe_can pe_can) fun Q q => ha _ (hb _ ⟨i, j, rfl, rfl, hp, q⟩)
theorem ev_op0 {op : Operator} {g : Int → Int → V} {i j : Int} (ho : OpR X (binaryOp op) (rI0 g)) (ha : EV X a σ H (.int i)) (hb : EV X b σ H (.int j)) : EV X (.BinOp a op b pos) σ H (g i j) :=
  ev_of (pe_op ho pe_can pe_can) fun Q q => ha _ (hb _ ⟨i, j, rfl, rfl, q⟩)
theorem tv_cmp {op : CmpOp} {g : Int → Int → Bool} {i j : Int} (ho : OpR X (compareOp op) (rI0 fun i j => .bl (g i j))) (ha : EV X a σ H (.int i)) (hb : EV X b σ H (.int j)) (hm : behindInMarks op b = false := by exact nomark _) : TV X (.Compare a [op] [b] pos) σ H (g i j) := fun Q q pins s I =>
  (pt_cmpR ho pe_can pe_can hm).run pins s σ H Q I (ha _ (hb _ ⟨i, j, rfl, rfl, _, rfl, q⟩))
theorem ev_int1 {i : Int} (hm : X.mg "int" = none) (ha : EV X e σ H (.int i)) (hg : Gl X "int" := by rfl) (hs : starEach [e] X.env = (false, eval e X.env) :: starEach [] X.env := by rfl) (hpl : (backTo pos (starEach [] X.env)).any (·.1) = false := by rfl) :
    EV X (.Call (.Name "int" p) [e] [] pos) σ H (.int i) :=
  ev_of (pe_callTy call_int1 hg hm boot_ty_int (pa_cons pe_can pa_nil hs) (by decide) (by decide) hs hpl) fun Q q => ha _ (.inl ⟨i, rfl, q⟩)
theorem ev_lenL {a1 : Addr} (hm : X.mg "len" = none) (ha : EV X e σ H (.ref a1)) (hl : SqL X.K H a1 vs) (hg : Gl X "len" := by rfl) (hs : starEach [e] X.env = (false, eval e X.env) :: starEach [] X.env := by rfl) (hpl : (backTo pos (starEach [] X.env)).any (·.1) = false := by rfl) :
    EV X (.Call (.Name "len" p) [e] [] pos) σ H (.int vs.length) :=
  ev_of (pe_callB call_len hg hm boot_ty_len (pa_cons pe_can pa_nil hs) (by decide) (by decide) hs hpl) fun Q q => ha _ ⟨_, vs.length, rfl, .inl ⟨vs, hl, rfl⟩, q⟩
def SX (X : Cx) (body : List Stmt) (D : Ends) (σ : L2.St) (H : Hp) : Prop := ssscan X body D σ H
theorem sx_of {t : TS} (h : PSs X body t) (k : t D σ H) : SX X body D σ H := fun pins s I => h.run pins s σ H D I k
theorem sx_nil (h : D.nx σ H) : SX X [] D σ H := sx_of pss_nil h
theorem sx_if {z : Bool} (hc : TV X c σ H z) (h1 : z = true → SX X body { D with nx := fun σ H => SX X rest D σ H } σ H) (h2 : z = false → SX X els { D with nx := fun σ H => SX X rest D σ H } σ H) : SX X (.If c body els pos :: rest) D σ H :=
  sx_of (pss_cons (ps_if pt_can pss_can pss_can) pss_can) (hc _ (by
    cases z with
    | true => exact h1 rfl
    | false => exact h2 rfl))
theorem sx_set (i : Nat) (he : EV X e σ H v) (hN : X.N.Nodup) (h : SX X rest D (σ.set i (some v)) H) {p' : Pos} (hi : X.N[i]? = some x := by rfl) (hx : Loc X.env.scope x := by first | exact Or.inl rfl | exact Or.inr rfl)
    (hs : swapsWith e (some (.Name x p')) pos.line X.env = pure false := by rfl) (hf : X.fn x = true ∨ X.env.scope.names.lookup x = some .local := by first | exact .inl rfl | exact .inr rfl) : SX X (.Assign [.Name x p'] e pos :: rest) D σ H :=
  sx_of (pss_cons (ps_set hN hi hx pe_can hs hf) pss_can) (he _ h)
theorem sx_setIx (i : Nat) {k : Int} {j : Nat} (hr : σ[i]? = some (some (.ref r))) (hl : H r = some (.lst vs)) (he : EV X e σ H v) (hb : EV X b σ H (.int k)) (hj : ixN vs.length k = some j) (h : SX X rest D σ (upd H r (.lst (vs.set j v)))) {p1 p2 : Pos} (hN : X.N[i]? = some x := by rfl) (hv : Vis X.env.scope x := by first | exact Or.inl rfl | exact Or.inr (Or.inl rfl) | exact Or.inr (Or.inr rfl))
    (hd : (x == ("__debug__" : Str)) = false := by decide) (hcd : (x == ("__classdict__" : Str)) = false := by decide)
    (ha : ∀ v, assign (.Subscript (.Name x p1) b p2) X.env v = (do
      let ov ← holding [v] (eval (.Name x p1) X.env)
      let iv ← holding [v, ov] (eval b X.env)
      standAt p2
      holding [v, ov, iv] (setItem ov iv v)
      release [v, ov, iv] []) := by intro _; rfl)
    (hs : swapsWithSole [.Subscript (.Name x p1) b p2] e pos.line X.env = pure false := by rfl) (hw : swappedStores [.Subscript (.Name x p1) b p2] e X.env = pure none := by rfl) (h1 : (assignEach [.Subscript (.Name x p1) b p2] X.env).map (·.2) = [assign (.Subscript (.Name x p1) b p2) X.env] := by rfl) : SX X (.Assign [.Subscript (.Name x p1) b p2] e pos :: rest) D σ H :=
  sx_of (pss_cons (ps_asg pe_can (pg_sub (pe_var hN hv hd hcd) pe_can set_list ha) hs hw h1) pss_can) (he _ ⟨_, hr, hb _ ⟨r, vs, k, j, rfl, rfl, hl, hj, h⟩⟩)
theorem sx_ret (he : EV X e σ H v) (h : D.rt v H) : SX X (.Return (some e) pos :: rest) D σ H := sx_of (pss_cons (ps_ret pe_can) pss_can) (he _ h)
end
end Fw
namespace Fw
open PySem PySem.Spec PyProof.Rows L2
section
variable {X : Cx} {C : Ct} {Γ : List Slot} {e a b c : Expr} {es : List Expr} {rest body : List Stmt} {d : PyData} {ds : List PyData} {pos p p2 : Pos} {x y : Str} {Q : PQ} {P : PyData → Prop}
theorem gn_ixF {Pm : Int → Prop} (ha : GE X C Γ a (.list ds)) (hb : GNI X C Γ b Pm) (h : ∀ i, Pm i → ∃ d, atI ds i = some d ∧ P d) (hs : PlainIx b := by exact fun _ _ => rfl) : GN X C Γ (.Subscript a b pos) P :=
  gx_of (pe_ix ix_list pe_can pe_can hs) fun σ ps H S Q q => ha σ ps H S _ fun v H1 t1 r1 => hb σ ps H1 (S.step t1) _ fun w H2 t2 ⟨i, e, hi⟩ => by
    obtain ⟨d, h1, h2⟩ := h i hi
    obtain ⟨a1, vs, rfl, g1, g2⟩ := dp_list (dp_mono t2.hid r1)
    obtain ⟨u, h3, h4⟩ := atI_dp g2 h1
    refine ⟨a1, vs, i, u, rfl, e, ?_, h3, q u H2 (t1.trans t2) ⟨d, h2, h4⟩⟩
    rcases g1 with (g1 | ⟨o, g1⟩) | g1
    · exact .inl (.inl (hid_some g1).2)
    · exact .inl (.inr ⟨o, (hid_some g1).2⟩)
    · exact .inr g1
/-- data of ints, bools, strings, None and tuples, of depth n at most -/
def simpD : Nat → PyData → Bool
  | _, .none => true
  | _, .int _ => true
  | _, .bool _ => true
  | n + 1, .tuple ds => decide (ds.length ≤ 1000000) && ds.all (simpD n)
  | _, _ => false
def F_alike (n : Nat) : DSpec := fun ds Qd _ => ∃ d, ds = [d, d] ∧ simpD n d = true ∧ Qd (.bool true)
/-- the row stands in slot i: from now on it is the callees' -/
theorem ws_enterRow {K : PySem.W.Frag} {T : List (Addr × Str)} {i : Nat} {ns : List Int} {s0 : Int} {Pd : PyData → Prop} (hK : X.K = K) (h : Γ[i]? = some (.own (.lst [.list (ns.map .int), .int 0, .int s0, .int 0]))) (hs0 : 0 ≤ s0) (hs1 : s0 < 2147483647)
    (hT : ∀ H, C.I H → LamX.Tabs T H) (hO : ∀ (j : Nat) w, Γ[j]? = some (.own w) → j = i) (hM : ∀ a o, ¬ NT o → C.M a o) (hI : ∀ H, LamX.Tabs T H → C.I H) (hC0 : ∀ a, C.M a = fun o => ¬ NT o)
    (hrt : Q.rt = rtD K C Pd) (hfl : ∀ d, Pd d → flatD d = true) (hnx : ∀ Γ, ¬ Q.nx Γ) (hbk : ∀ Γ, ¬ Q.bk Γ) (hct : ∀ Γ, ¬ Q.ct Γ)
    (k : ∀ (R : RW) (C' : Ct), R.T = T → IsR K R C' → C'.E = C.E → WS X C' (Γ.set i (.raw (.ref R.row))) rest ⟨fun _ => False, rtD K C' Pd, fun _ => False, fun _ => False⟩) : WS X C Γ rest Q := fun σ ps H S pins s I => by
  subst hK
  obtain ⟨a, u, e1, e2, e3, vs, rfl, e5⟩ := S.getO h
  obtain ⟨b, v1, v2, v3, rfl, hb, r1, r2, r3⟩ : ∃ b v1 v2 v3, vs = [.ref b, v1, v2, v3] ∧ SqL X.K H b (ns.map V.int) ∧ v1 = .int 0 ∧ v2 = .int s0 ∧ v3 = .int 0 := by
    cases e5 with
    | cons h1 e5 =>
      cases e5 with
      | cons h2 e5 =>
        cases e5 with
        | cons h3 e5 =>
          cases e5 with
          | cons h4 e5 =>
            cases e5
            obtain ⟨b, ws, rfl, g1, g2⟩ := dp_list h1
            rw [dpAll_ints g2] at g1
            refine ⟨b, _, _, _, rfl, ?_, dp_int h2, dp_int h3, dp_int h4⟩
            rcases g1 with (g1 | ⟨o, g1⟩) | g1
            · exact .inl (.inl (hid_some g1).2)
            · exact .inl (.inr ⟨o, (hid_some g1).2⟩)
            · exact .inr g1
  subst r1; subst r2; subst r3
  have hO2 : OO C ps a := .inr (List.mem_of_getElem? e2)
  have thO : ∀ c, OO C ps c → NTd H c := fun c z => by
    rcases z with z | z
    · exact S.dom c (S.od c z)
    · exact S.th c z
  have rI : rowI X.K ⟨a, b, ns, T⟩ H H := ⟨⟨0, s0, 0, e3, Int.le_refl 0, hs0, hs1, Int.le_refl 0⟩, by
      rcases hb with (y | ⟨o, y⟩) | y
      · exact .inl ⟨⟨_, y, trivial⟩, .inl (.inl y)⟩
      · exact .inl ⟨⟨_, y, trivial⟩, .inl (.inr ⟨o, y⟩)⟩
      · exact .inr (.inr y), hT H S.inv, ⟨_, e3, trivial⟩⟩
  have la : i < Γ.length := (List.getElem?_eq_some_iff.mp h).1
  have S' : StOk X.K (ctR X.K ⟨a, b, ns, T⟩ H (OO C ps) C.E hO2) (Γ.set i (.raw (.ref a))) σ (List.replicate ps.length none) H := by
    have nm : ∀ c, ¬ some c ∈ List.replicate ps.length (none : Option Addr) := fun c h => by
      have := List.eq_of_mem_replicate h
      cases this
    have eO : OO (ctR X.K ⟨a, b, ns, T⟩ H (OO C ps) C.E hO2) (List.replicate ps.length none) = OO C ps := by
      funext c
      exact propext ⟨fun h => h.elim id fun z => (nm c z).elim, .inl⟩
    refine ⟨by rw [List.length_set]; exact S.l1, by rw [List.length_replicate]; exact S.l2, fun c h => (nm c h).elim, fun c o e _ => e, fun c e => e, thO, rI, fun c h => (nm c h).elim, fun j1 j2 c e _ => (nm c (List.mem_of_getElem? e)).elim, fun j t e => ?_⟩
    rw [eO]
    have hj : j < Γ.length := by
      have := (List.getElem?_eq_some_iff.mp e).1
      rw [List.length_set] at this
      exact this
    have hp : (List.replicate ps.length (none : Option Addr))[j]? = some none := by
      rw [List.getElem?_replicate, if_pos (by have := S.l1; have := S.l2; omega)]
    by_cases q : i = j
    · subst q
      rw [List.getElem?_set_self la] at e
      cases e
      exact ⟨_, none, e1, hp, rfl, rfl⟩
    · rw [List.getElem?_set_ne q] at e
      obtain ⟨o, pp, f1, f2, f3⟩ := S.sl j t e
      refine ⟨o, none, f1, hp, ?_⟩
      cases t with
      | any => rfl
      | dat d => exact ⟨rfl, f3.2⟩
      | raw v => exact ⟨rfl, f3.2⟩
      | own w => exact absurd (hO j w e).symm q
  have kk := k ⟨a, b, ns, T⟩ (ctR X.K ⟨a, b, ns, T⟩ H (OO C ps) C.E hO2) rfl isR rfl σ _ H S' pins s I
  refine wpAny_mono kk (fun f s2 q => ?_) fun _ _ z => z
  cases f with
  | next => obtain ⟨_, _, _, _, _, _, _, z⟩ := q; exact z.elim
  | brk => obtain ⟨_, _, _, _, _, _, _, z⟩ := q; exact z.elim
  | cont => obtain ⟨_, _, _, _, _, _, _, z⟩ := q; exact z.elim
  | ret v =>
    obtain ⟨u, σ', H', I', rv, en, d, hd, dv⟩ := q
    refine ⟨u, σ', H', I', rv, ⟨fun c o e n => ?_, fun c e => en.dom c (S.dom c e), hI H' ?_⟩, ?_⟩
    · have n' : NT o := by
        rw [hC0 c] at n
        exact Classical.not_not.mp n
      refine en.fr c o (S.fr c o e n) fun z => ?_
      rcases z with z | z
      · rw [z] at e
        exact S.new a (List.mem_of_getElem? e2) ⟨o, e, n'⟩
      · exact z n'
    · have hi : rowI X.K ⟨a, b, ns, T⟩ H H' := en.inv
      exact hi.tab
    · rw [hrt]
      exact ⟨d, hd, dp_flat dv (hfl d hd)⟩
end
end Fw
namespace Fw
open PySem PySem.Spec PyProof.Rows L2
/-- _law_refused: try: call() / except BadArgument as e: return e.name / return "" -/
def TTr (CB : Addr) (ret : Str) : (XK → Hp → VK → Prop) → Hp → VK → Prop := fun tl H Q =>
  tl (fun cls d H' => cls = .ref CB ∧ ∃ dd x, d = some dd ∧ H' dd = some (.xd [(("name" : Str), .str x)]) ∧ Q (.str x) H') H (fun _ H' => Q (.str ret) H')
theorem refused_gives {X : Cx} {x a q ret : Str} {sg : Scope} {g CB fI : Addr} {cdg : Value} {j : Nat} {p1 p2 p3 p4 p5 p6 p7 p8 p9 p10 p11 : Pos} (B : BadOk X.K X.mg CB fI) (hge : sg.names.lookup ("BadArgument" : Str) = some .globalImplicit) (hle : sg.names.lookup ("e" : Str) = some .local) (hna : ([a, "e"] : List Str).Nodup) :
    LamX.GivesTo X [a, "e"] x sg g cdg [.Try [.Expr (.Call (.Name a p1) [] [] p2) p3] [.ExceptHandler (some (.Name "BadArgument" p4)) (some "e") [.Return (some (.Attribute (.Name "e" p5) "name" p6)) p7] p8] [] [] p9, .Return (some (.Constant (.str ret) j p10)) p11] a q (TTr CB ret) := by
  intro f c' s H Q tl act hc h
  have hgl : Gl (cxOf C8.CX0 X.prog X.w X.K X.mg X.base [a, "e"] x sg g cdg X.A X.stack s H C8.E0).nox "BadArgument" := hge
  have T1 : PSs (cxOf C8.CX0 X.prog X.w X.K X.mg X.base [a, "e"] x sg g cdg X.A X.stack s H C8.E0).nox [.Return (some (.Constant (.str ret) j p10)) p11] _ := pss_one (ps_ret pe_str)
  refine ⟨_, pss_cons (ps_try_as (X := (cxOf C8.CX0 X.prog X.w X.K X.mg X.base [a, "e"] x sg g cdg X.A X.stack s H C8.E0).nox) (c := .ref CB) (i := 1) (n := "e")
      (tb := fun W D σ H => ∃ Ech : XK, (∀ cls d σ' H', σ'.length = 2 → Ech cls d H' → W cls d σ' H') ∧ σ[0]? = some (some (.ref f)) ∧ H c' = some (LamX.CodeO c' q) ∧ tl Ech H (fun _ H' => D.nx σ H'))
      rfl rfl hna rfl hle ⟨hgl, by decide, .inl B.g⟩ LamX.takes0 (fun W pn xe tk _ => ?_) (fun a oe cls d pn hz hf => pss_one (ps_ret (pe_xf (C := CB) B.xf B.no hz hf (pe_var (i := 1) rfl (.inl hle)))))) T1, ?_⟩
  · refine ⟨fun pins s' σ H' D I h' => ?_⟩
    obtain ⟨Ech, hW, h1, h2, h3⟩ := h'
    have tk' : Takes ((cxOf C8.CX0 X.prog X.w X.K X.mg X.base [a, "e"] x sg g cdg X.A X.stack s H C8.E0).tr pn xe) (fun cls d σ H => σ.length = 2 → W cls d σ H) := fun u s' ⟨a, B, sI, pins, σ, H, cls, d, e, I, nb, up, sky, na, os, ag, w⟩ => tk u s' ⟨a, B, sI, pins, σ, H, cls, d, e, I, nb, up, sky, na, os, ag, w I.len⟩
    have hp := act _ pn xe Ech p1 p2 tk' (fun cls d σ' H' h l => hW cls d σ' H' l h)
    have hq := pss_one (ps_expr (pos := p3) hp (by rfl))
    exact hq.run pins s' σ H' D I ⟨h1, h2, h3⟩
  · refine ⟨fun cls d H' => cls = .ref CB ∧ ∃ dd x, d = some dd ∧ H' dd = some (.xd [(("name" : Str), .str x)]) ∧ Q (.str x) H', ?_, rfl, hc, ?_⟩
    · rintro cls d σ' H' hl ⟨rfl, dd, y, rfl, e2, e3⟩
      refine ⟨true, B.em, fun _ a' ha' => ?_, fun z => by cases z⟩
      exact ⟨.ref a', List.getElem?_set_self (by omega), rfl, rfl, dd, _, _, rfl, e2, rfl, e3⟩
    · exact h
/-- the def that tells what is refused -/
def RefOk (K : PySem.W.Frag) (mg : Str → Option Value) (CB : Addr) (ret : Str) : Prop :=
  ∃ (g : Addr) (fd : FuncData) (pg : Arguments) (bg : List Stmt) (sg : Scope), FunD K "_law_refused" "_law_refused" pg bg sg [] [] g fd ∧ mg "_law_refused" = some (.ref g) ∧ Binds K fd ["call"] [] ∧ FnScope ["call", "e"] ["call"] sg ∧
    ∀ (X : Cx) (q : Str) (cdg : Value), X.K = K → X.mg = mg → LamX.GivesTo X ["call", "e"] "_law_refused" sg g cdg bg "call" q (TTr CB ret)
def lose : List Slot → List Slot
  | [] => []
  | .own _ :: Γ => .any :: lose Γ
  | s :: Γ => s :: lose Γ
theorem lose_len : ∀ Γ : List Slot, (lose Γ).length = Γ.length
  | [] => rfl
  | s :: Γ => by cases s <;> simp [lose, lose_len Γ]
theorem lose_get : ∀ {Γ : List Slot} {i : Nat} {s : Slot}, (lose Γ)[i]? = some s → ∃ s', Γ[i]? = some s' ∧ ((∃ w, s' = .own w) ∧ s = .any ∨ s = s' ∧ ∀ w, s' ≠ .own w)
  | [], i, s, h => by cases h
  | t :: Γ, 0, s, h => by
    cases t with
    | own w => cases h; exact ⟨_, rfl, .inl ⟨⟨w, rfl⟩, rfl⟩⟩
    | any => cases h; exact ⟨_, rfl, .inr ⟨rfl, fun w z => by cases z⟩⟩
    | dat d => cases h; exact ⟨_, rfl, .inr ⟨rfl, fun w z => by cases z⟩⟩
    | raw v => cases h; exact ⟨_, rfl, .inr ⟨rfl, fun w z => by cases z⟩⟩
  | t :: Γ, i + 1, s, h => by
    have h' : (lose Γ)[i]? = some s := by
      cases t <;> exact h
    obtain ⟨s', e, r⟩ := lose_get h'
    exact ⟨s', e, r⟩
section
variable {X : Cx} {C : Ct} {Γ : List Slot} {R : RW} {CB : Addr} {k : Nat} {ret y : Str} {body : Expr} {scope : Scope} {params : Arguments} {p lpos pos : Pos} {c P : Addr}
/-- the slots, seen from the lambda -/
theorem StOk.inner {K : PySem.W.Frag} {σ : L2.St} {ps : List (Option Addr)} {H : Hp} {E : XK} (S : StOk K C Γ σ ps H) (hO : OO C ps R.row) (hI : rowI K R H H) : StOk K (ctR K R H (OO C ps) E hO) (lose Γ) σ (List.replicate ps.length none) H := by
  have nm : ∀ c, ¬ some c ∈ List.replicate ps.length (none : Option Addr) := fun c h => by
    have := List.eq_of_mem_replicate h
    cases this
  have eO : OO (ctR K R H (OO C ps) E hO) (List.replicate ps.length none) = OO C ps := by
    funext c
    exact propext ⟨fun h => h.elim id fun z => (nm c z).elim, .inl⟩
  refine ⟨by rw [lose_len]; exact S.l1, by rw [List.length_replicate]; exact S.l2, fun c h => (nm c h).elim, fun c o e _ => e, fun c e => e, fun c z => ?_, hI, fun c h => (nm c h).elim, fun j1 j2 c e _ => (nm c (List.mem_of_getElem? e)).elim, fun j t e => ?_⟩
  · rcases z with z | z
    · exact S.dom c (S.od c z)
    · exact S.th c z
  · rw [eO]
    have hj : j < Γ.length := by
      have := (List.getElem?_eq_some_iff.mp e).1
      rw [lose_len] at this
      exact this
    have hp : (List.replicate ps.length (none : Option Addr))[j]? = some none := by
      rw [List.getElem?_replicate, if_pos (by have := S.l1; have := S.l2; omega)]
    obtain ⟨t', e1, r⟩ := lose_get e
    obtain ⟨o, pp, f1, f2, f3⟩ := S.sl j t' e1
    refine ⟨o, none, f1, hp, ?_⟩
    rcases r with ⟨⟨w, rfl⟩, rfl⟩ | ⟨rfl, nw⟩
    · rfl
    · cases t with
      | any => rfl
      | dat d => exact ⟨rfl, f3.2⟩
      | raw v => exact ⟨rfl, f3.2⟩
      | own w => exact absurd rfl (nw w)
/-- _law_refused(lambda: body): the body refuses y -/
theorem ge_refused (IR : IsR X.K R C) (RO : RefOk X.K X.mg CB ret) (TB : LamX.TabB X.base X.mg c P) (hmT : (P, X.env.qual ++ "<lambda>") ∈ R.T) (hu : ∀ p ∈ R.T, p.1 = P → p.2 = X.env.qual ++ "<lambda>") (hr : Room (k + 2) X.A)
    (hbody : ∀ (A : Around) (outer : List Env) (s : Shared) (H0 : Hp) (E : XK) (f c' : Addr) (C' : Ct), Room k (A.deeper (LamX.lamEnv X scope s.heap.objs.size f c')) → C'.E = E → Passes (L2.CX X.prog X.w) (LamX.lamCx X A outer s H0 E scope f c') E → Exc C' CB y →
      GN (LamX.lamCx X A outer s H0 E scope f c') C' (lose Γ) body fun _ => False)
    (hcode : X.env.code = .ref c := by rfl) (L : LamX.LamS X.env.scope scope := by exact LamX.lamS_by (by kernel_rfl)) (hdef : defaultsOf params X.env = ([], []) := by rfl)
    (hbind : ∀ (q : Str) (cl : List (Str × Addr)) (pm cv ctv : Value), bindArgs (PySem.W.kla_fn "<lambda>" q params body scope cl pm cv ctv) ⟨[], []⟩ = pure [] := by intro _ _ _ _ _; rfl) (hg : Gl X "_law_refused" := by rfl) :
    GE X C Γ (.Call (.Name "_law_refused" p) [.Lambda params body scope lpos] [] pos) (.str y) := by
  obtain ⟨g, fd, pg, bg, sg, Fd, hm, hb, Sg, hG⟩ := RO
  obtain ⟨oc, od, dV, kV, doc, pm, an, cdv, ct, osl, rfl, lk, hcd, _, _⟩ := Fd.ex
  have hva : Vis sg "call" := by
    rcases Sg.par "call" (List.mem_cons_self) with z | z
    · exact .inl z
    · exact .inr (.inl z)
  refine gx_of (LamX.pe_lamcall (k := k) (t := fun E σ H Q => ∀ (A : Around) (outer : List Env) (s : Shared) (H0 : Hp) (f c' : Addr), Room k (A.deeper (LamX.lamEnv X scope s.heap.objs.size f c')) → tcan (LamX.lamCx X A outer s H0 E scope f c') body σ H Q) hg hm Fd.kp lk hcd hb Sg rfl hva (hG X _ cdv rfl rfl) TB hcode hmT hu hr L hdef hbind (fun A outer s H E f c' hr' => ⟨fun pins s' σ H' Q I h => h A outer s H f c' hr' pins s' I⟩)) fun σ ps H S Q q => ?_
  have hI := (IR.I H).mp S.inv
  refine ⟨hI.tab, fun H1 ext tab1 => ?_⟩
  have e1 : ∀ a o, NT o → H a = some o → H1 a = some o := fun a o n e => ext a o e fun ps z => by subst z; exact n
  have hrow1 : rowH R H1 := by
    obtain ⟨i, s, c, h1, h2⟩ := hI.row
    exact ⟨i, s, c, e1 _ _ trivial h1, h2⟩
  have sq1 : SqL X.K H R.scr (R.ns.map V.int) → SqL X.K H1 R.scr (R.ns.map V.int) := fun h => by
    rcases h with (h | ⟨o, h⟩) | h
    · exact .inl (.inl (e1 _ _ trivial h))
    · exact .inl (.inr ⟨o, e1 _ _ trivial h⟩)
    · exact .inr h
  have t1 : Stp C H H1 := ⟨fun a o e n => e1 a o (Classical.not_not.mp fun z => n ((IR.M a o).mpr (.inr z))) e, fun a ⟨o, e, n⟩ => ⟨o, e1 a o n e, n⟩, (IR.I H1).mpr ⟨hrow1, by
    rcases hI.scr with ⟨g1, g2⟩ | g
    · exact .inl ⟨g1, sq1 g2⟩
    · exact .inr g, tab1, hI.old⟩⟩
  have S1 := S.step t1
  have rI1 : rowI X.K R H1 H1 := ⟨hrow1, by
    rcases hI.scr with ⟨g1, g2⟩ | g
    · exact .inl ⟨S1.dom _ g1, sq1 g2⟩
    · exact .inr g, tab1, by obtain ⟨i, s, c, h1, _⟩ := hrow1; exact ⟨_, h1, trivial⟩⟩
  have hO : OO C ps R.row := .inl IR.row
  intro A outer s H0 f c' hr'
  refine hbody A outer s H0 _ f c' (ctR X.K R H1 (OO C ps) (fun cls d H' => cls = .ref CB ∧ ∃ dd x, d = some dd ∧ H' dd = some (.xd [(("name" : Str), .str x)]) ∧ Q (.str x) H') hO) hr' rfl ?_ ?_ σ _ H1 (S1.inner hO rI1) _ fun v H' _ ⟨_, z, _⟩ => z.elim
  · exact passes_call (takes_of (X := LamX.lamCx X A outer s H0 (fun cls d H' => cls = .ref CB ∧ ∃ dd x, d = some dd ∧ H' dd = some (.xd [(("name" : Str), .str x)]) ∧ Q (.str x) H') scope f c') rfl rfl rfl rfl) fun _ _ _ _ z => z
  · intro dd H' en h0 hd
    refine ⟨rfl, dd, y, rfl, hd, q _ H' (t1.trans ⟨fun a o e n => en.fr a o e fun z => n ((IR.M a o).mpr z), en.dom, (IR.I H').mpr ?_⟩) (.str y)⟩
    have hi : rowI X.K R H1 H' := en.inv
    refine ⟨hi.row, ?_, hi.tab, hI.old⟩
    rcases hI.scr with ⟨g1, _⟩ | g
    · exact .inl ⟨g1, hi.scr.sq⟩
    · exact .inr g
end
end Fw
namespace Fw
open PySem PySem.Spec PyProof.Rows L2
/-- plain data of depth n at most: None, ints, bools, lists, tuples -/
def shp : Nat → PyData → Bool
  | _, .none => true
  | _, .int _ => true
  | _, .bool _ => true
  | n + 1, .list ds => ds.all (shp n)
  | n + 1, .tuple ds => ds.all (shp n)
  | _, _ => false
/-- .. without bools -/
def nbl : Nat → PyData → Bool
  | _, .none => true
  | _, .int _ => true
  | n + 1, .list ds => ds.all (nbl n)
  | n + 1, .tuple ds => ds.all (nbl n)
  | _, _ => false
theorem shp_lay : ∀ {n : Nat} {d : PyData}, shp n d = true → d.canLay0 = true ∧ d.depth ≤ n + 1 := by
  intro n
  induction n with
  | zero =>
    intro d h
    cases d <;> first | (cases h; done) | (constructor <;> simp [PyData.canLay0, PyData.depth])
  | succ n ih =>
    have all : ∀ ds : List PyData, ds.all (shp n) = true → PyData.canLayAll0 ds = true ∧ PyData.depthAll ds ≤ n + 1 := by
      intro ds
      induction ds with
      | nil => intro _; constructor <;> simp [PyData.canLayAll0, PyData.depthAll]
      | cons d ds ih2 =>
        intro h
        rw [List.all_cons, Bool.and_eq_true] at h
        obtain ⟨a1, a2⟩ := ih h.1
        obtain ⟨b1, b2⟩ := ih2 h.2
        refine ⟨by simp [PyData.canLayAll0, a1, b1], ?_⟩
        simp only [PyData.depthAll]
        omega
    intro d h
    cases d with
    | list ds =>
      obtain ⟨a, b⟩ := all ds h
      exact ⟨by simp [PyData.canLay0, a], by simp only [PyData.depth]; omega⟩
    | tuple ds =>
      obtain ⟨a, b⟩ := all ds h
      exact ⟨by simp [PyData.canLay0, a], by simp only [PyData.depth]; omega⟩
    | none => constructor <;> simp [PyData.canLay0, PyData.depth]
    | int i => constructor <;> simp [PyData.canLay0, PyData.depth]
    | bool b => constructor <;> simp [PyData.canLay0, PyData.depth]
    | _ => cases h
theorem shaped_shp {n : Nat} {d : PyData} (h : shp n d = true) (hn : n ≤ 63 := by decide) : SeqAt.shaped d = true := by
  obtain ⟨a, b⟩ := shp_lay h
  show (d.canLay0 && decide (d.depth ≤ 64)) = true
  rw [a, Bool.true_and]
  exact decide_eq_true (by omega)
theorem nbl_shp : ∀ {n : Nat} {d : PyData}, nbl n d = true → shp n d = true := by
  intro n
  induction n with
  | zero => intro d h; cases d <;> first | rfl | (cases h; done)
  | succ n ih =>
    intro d h
    cases d with
    | list ds => exact List.all_eq_true.mpr fun x hx => ih (List.all_eq_true.mp h x hx)
    | tuple ds => exact List.all_eq_true.mpr fun x hx => ih (List.all_eq_true.mp h x hx)
    | none => rfl
    | int i => rfl
    | _ => cases h
theorem shaped_nbl {n : Nat} {d : PyData} (h : nbl n d = true) (hn : n ≤ 63 := by decide) : SeqAt.shaped d = true := shaped_shp (nbl_shp h) hn
theorem eqv_nbl : ∀ {n m : Nat} {a b : PyData}, nbl n a = true → nbl m b = true → (PyData.eqv a b = true ↔ a = b) := by
  intro n
  induction n with
  | zero =>
    intro m a b ha hb
    cases a <;> first | (cases ha; done) | skip
    all_goals cases b <;> first | (cases m <;> cases hb; done) | simp [PyData.eqv]
  | succ n ih =>
    have all : ∀ (m : Nat) (xs ys : List PyData), xs.all (nbl n) = true → ys.all (nbl m) = true → (PyData.eqvAll xs ys = true ↔ xs = ys) := by
      intro m xs
      induction xs with
      | nil => intro ys _ _; cases ys <;> simp [PyData.eqvAll]
      | cons x xs ih2 =>
        intro ys hx hy
        cases ys with
        | nil => simp [PyData.eqvAll]
        | cons y ys =>
          rw [List.all_cons, Bool.and_eq_true] at hx hy
          have h1 := ih (m := m) (b := y) hx.1 hy.1
          have h2 := ih2 ys hx.2 hy.2
          simp only [PyData.eqvAll, Bool.and_eq_true, h1, h2, List.cons.injEq]
    intro m a b ha hb
    cases a with
    | list xs =>
      cases b with
      | list ys =>
        cases m with
        | zero => cases hb
        | succ m => simp only [PyData.eqv, PyData.list.injEq]; exact all m xs ys ha hb
      | _ => first | (cases m <;> cases hb; done) | simp [PyData.eqv]
    | tuple xs =>
      cases b with
      | tuple ys =>
        cases m with
        | zero => cases hb
        | succ m => simp only [PyData.eqv, PyData.tuple.injEq]; exact all m xs ys ha hb
      | _ => first | (cases m <;> cases hb; done) | simp [PyData.eqv]
    | none => cases b <;> first | (cases m <;> cases hb; done) | simp [PyData.eqv]
    | int i => cases b <;> first | (cases m <;> cases hb; done) | simp [PyData.eqv]
    | _ => cases ha
/-- the test as a proposition -/
theorem eqv_dec {n m : Nat} {a b : PyData} (ha : nbl n a = true) (hb : nbl m b = true) {p : Prop} [Decidable p] (h : a = b ↔ p) : PyData.eqv a b = decide p := by
  have := eqv_nbl ha hb
  cases e : PyData.eqv a b with
  | true => exact (decide_eq_true (h.mp (this.mp e))).symm
  | false => exact (decide_eq_false fun q => by rw [this.mpr (h.mpr q)] at e; cases e).symm
theorem eqvAll_bools : ∀ (xs ys : List Bool), PyData.eqvAll (xs.map .bool) (ys.map .bool) = decide (xs = ys)
  | [], [] => by simp [PyData.eqvAll]
  | [], _ :: _ => by simp [PyData.eqvAll]
  | _ :: _, [] => by simp [PyData.eqvAll]
  | x :: xs, y :: ys => by
    simp only [List.map_cons, PyData.eqvAll, PyData.eqv, eqvAll_bools xs ys]
    cases x <;> cases y <;> simp
theorem nbl_ints {n : Nat} (l : List Int) : (l.map PyData.int).all (nbl n) = true := by
  rw [List.all_map]
  exact List.all_eq_true.mpr fun x _ => by cases n <;> rfl
theorem shp_bools {n : Nat} (l : List Bool) : (l.map PyData.bool).all (shp n) = true := by
  rw [List.all_map]
  exact List.all_eq_true.mpr fun x _ => by cases n <;> rfl
theorem map_int_inj {xs ys : List Int} (h : xs.map PyData.int = ys.map PyData.int) : xs = ys := by
  induction xs generalizing ys with
  | nil => cases ys with
    | nil => rfl
    | cons _ _ => cases h
  | cons x xs ih =>
    cases ys with
    | nil => cases h
    | cons y ys =>
      obtain ⟨h1, h2⟩ := List.cons.inj h
      injection h1 with h1
      rw [h1, ih h2]
section
variable {X : Cx} {C : Ct} {Γ Γ' : List Slot} {e a b c : Expr} {es : List Expr} {d : PyData} {pos p : Pos} {ds : List PyData} {x y z : Str} {Q : PQ} {Pk : List Pv → Prop} {P : PyData → Prop}
def GPN (X : Cx) (C : Ct) (Γ : List Slot) (es : List Expr) (Pk : List Pv → Prop) : Prop :=
  ∀ σ ps H, StOk X.K C Γ σ ps H → ∀ Q : List V → Hp → Prop, (∀ vs qs H' ks, Pk ks → StOk X.K C Γ σ (ps ++ qs) H' → Stp C H H' → (∀ a, some a ∈ qs → ¬ NTd H a) → PvsOk X.K (hid (OO C (ps ++ qs)) H') H' ks vs qs → Q vs H') → tacan X es σ H Q
theorem gpn_gp {ks : List Pv} (h : GP X C Γ es ks) : GPN X C Γ es fun z => z = ks := fun σ ps H S Q q => h σ ps H S Q fun vs qs H' S' t n r => q vs qs H' ks rfl S' t n r
theorem gpn_d (ha : GN X C Γ e P) (hr : GPN X C Γ es Pk) (hs : starEach (e :: es) X.env = (false, eval e X.env) :: starEach es X.env := by rfl) : GPN X C Γ (e :: es) fun z => ∃ d ks, P d ∧ Pk ks ∧ z = .dat d :: ks := fun σ ps H S Q q po pins s I =>
  (pa_cons pe_can pa_can hs).run po pins s σ H Q I (ha σ ps H S _ fun v H1 t1 ⟨d, hd, r1⟩ => hr σ ps H1 (S.step t1) _ fun vs qs H2 ks hk S2 T2 N2 r2 => by
    have F2 := frm_of (ps := ps) T2 N2
    have mem : ∀ b, some b ∈ ps ++ none :: qs ↔ some b ∈ ps ++ qs := fun b => by simp
    have eO : OO C (ps ++ none :: qs) = OO C (ps ++ qs) := by
      funext b; unfold OO; rw [mem b]
    refine q (v :: vs) (none :: qs) H2 (.dat d :: ks) ⟨d, ks, hd, hk, rfl⟩ ?_ (t1.trans T2) (fun b hb => t1.back (N2 b (by simpa using hb))) ?_
    · refine ⟨S2.l1, by rw [List.length_append]; exact Nat.le_trans S.l2 (Nat.le_add_right _ _), fun b h => S2.th b ((mem b).mp h), S2.fr, S2.dom, S2.od, S2.inv, fun b h => S2.new b ((mem b).mp h), fun i j b e1 e2 => ?_, fun i s' e' => ?_⟩
      · have key : ∀ {i : Nat}, (ps ++ none :: qs)[i]? = some (some b) → ∃ i', (ps ++ qs)[i']? = some (some b) ∧ i = (if i' < ps.length then i' else i' + 1) := fun {i} e' => by
          by_cases hi : i < ps.length
          · rw [List.getElem?_append_left hi] at e'
            exact ⟨i, by rw [List.getElem?_append_left hi]; exact e', by rw [if_pos hi]⟩
          · rw [List.getElem?_append_right (by omega)] at e'
            obtain ⟨m, hm⟩ : ∃ m, i - ps.length = m := ⟨_, rfl⟩
            rw [hm] at e'
            cases m with
            | zero => cases e'
            | succ m =>
              refine ⟨ps.length + m, by rw [List.getElem?_append_right (by omega)]; simpa using e', ?_⟩
              rw [if_neg (by omega)]; omega
        obtain ⟨i', h1, h2⟩ := key e1
        obtain ⟨j', h3, h4⟩ := key e2
        have := S2.inj i' j' b h1 h3
        subst this
        rw [h2, h4]
      · obtain ⟨o, p, f1, f2, r⟩ := S2.sl i s' e'
        have hi : i < ps.length := Nat.lt_of_lt_of_le (List.getElem?_eq_some_iff.mp f1).1 S.l2
        rw [List.getElem?_append_left hi] at f2
        refine ⟨o, p, f1, by rw [List.getElem?_append_left hi]; exact f2, ?_⟩
        rw [eO]; exact r
    · refine ⟨⟨rfl, ?_⟩, by rw [eO]; exact r2⟩
      rw [eO]
      exact dp_mono (frm_hid F2) r1)
theorem gpn_l (ha : GL X C Γ e ds) (hr : GPN X C Γ es Pk) (hs : starEach (e :: es) X.env = (false, eval e X.env) :: starEach es X.env := by rfl) : GPN X C Γ (e :: es) fun z => ∃ ks, Pk ks ∧ z = .obj (.lst ds) :: ks := fun σ ps H S Q q po pins s I =>
  (pa_cons pe_can pa_can hs).run po pins s σ H Q I (ha σ ps H S _ fun v H1 t1 ⟨a, vs, e1, e2, e3, e4⟩ => hr σ (ps ++ [some a]) H1 (S.ext t1 e2 e3) _ fun ws qs H2 ks hk S2 T2 N2 r2 => by
    have F2 := frm_of (ps := ps ++ [some a]) T2 N2
    subst e1
    have eq : ps ++ [some a] ++ qs = ps ++ some a :: qs := by rw [List.append_assoc]; rfl
    rw [eq] at S2 r2
    have F2' := F2
    rw [eq] at F2'
    have eO : OO C (ps ++ [some a]) = fun b => OO C ps b ∨ b = a := by
      funext b
      unfold OO
      apply propext
      simp only [List.mem_append, List.mem_singleton, Option.some.injEq]
      exact ⟨fun h => by rcases h with h | h | h; exact .inl (.inl h); exact .inl (.inr h); exact .inr h, fun h => by rcases h with (h | h) | h; exact .inl h; exact .inr (.inl h); exact .inr (.inr h)⟩
    refine q (.ref a :: ws) (some a :: qs) H2 (.obj (.lst ds) :: ks) ⟨ks, hk, rfl⟩ S2 (t1.trans T2) (fun b hb => ?_) ⟨⟨a, .lst vs, rfl, rfl, T2.fr a _ e3 (S.noMn e2 _ trivial), vs, rfl, ?_⟩, r2⟩
    · rcases List.mem_cons.mp hb with z | z
      · cases z; exact e2
      · exact t1.back (N2 b z)
    · refine dpAll_mono (frm_hid F2') ?_
      rw [eO]
      exact e4)
theorem w1_parN (i j : Nat) {px py pt pt2 : Pos} {kt kt2 : Nat} (h : GPN X C Γ [a, b] Pk) (hq : ∀ ks, Pk ks → ∃ k1 k2, ks = [k1, k2] ∧ Q.nx ((Γ.set i k1.slot).set j k2.slot)) (hc : X.calm = true) (hN : X.N.Nodup) (hij : i ≠ j := by decide) (hi : X.N[i]? = some x := by rfl) (hj : X.N[j]? = some y := by rfl)
    (hx : X.env.scope.names.lookup x = some .local := by rfl) (hy : X.env.scope.names.lookup y = some .local := by rfl) (hw : swappedStores [.Tuple [.Name x px, .Name y py] kt pt] (.Tuple [a, b] kt2 pt2) X.env = pure (some [x, y]) := by rfl)
    (hs : swapsWithSole [.Tuple [.Name x px, .Name y py] kt pt] (.Tuple [a, b] kt2 pt2) pos.line X.env = pure false := by rfl) : W1 X C Γ (.Assign [.Tuple [.Name x px, .Name y py] kt pt] (.Tuple [a, b] kt2 pt2) pos) Q :=
  fun σ ps H S pins s I => (ps_par hc hN hi hj hij hx hy pa_can hw hs).run pins s σ H _ I (h σ ps H S _ fun vs qs H' ks hk S' T' N' r => by
    obtain ⟨k1, k2, rfl, hq⟩ := hq ks hk
    obtain ⟨v1, vs1, q1, qs1, rfl, rfl, r1, r⟩ := pvs_cons r
    obtain ⟨v2, vs2, q2, qs2, rfl, rfl, r2, r⟩ := pvs_cons r
    obtain ⟨rfl, rfl⟩ := pvs_nil r
    refine ⟨v1, v2, rfl, ?_⟩
    have li : i < σ.length := by rw [I.len]; exact (List.getElem?_eq_some_iff.mp hi).1
    have lj : j < σ.length := by rw [I.len]; exact (List.getElem?_eq_some_iff.mp hj).1
    have l2 := S.l2
    obtain ⟨ps1, S1, m1, n1⟩ := S'.put1 (i := i) (k := ps.length) l2 (by rw [List.getElem?_append_right (Nat.le_refl _), Nat.sub_self]; rfl) r1 li
    obtain ⟨ps2, S2, m2, n2⟩ := S1.put1 (i := j) (k := ps.length + 1) (by rw [List.length_set]; omega) (by rw [n1 (ps.length + 1) (by omega) (by omega), List.getElem?_append_right (by omega), show ps.length + 1 - ps.length = 1 by omega]; rfl) (pvOk_mono (hid_less m1) (fun _ _ e => e) r2) (by rw [List.length_set]; exact lj)
    exact ⟨_, ps2, S2, (frm_of (ps := ps) T' N').trans (.less fun b hb => m1 b (m2 b hb)), hq⟩)
/-- x.append(e) of some datum -/
theorem w1_appendN (i : Nat) (h : Γ[i]? = some (.own (.lst ds))) (he : GN X C Γ e P) (hz : ds.length ≤ 1000000) (hq : ∀ d, P d → Q.nx (Γ.set i (.own (.lst (ds ++ [d]))))) {p1 p2 : Pos} (hN : X.N[i]? = some x := by rfl) (hv : Vis X.env.scope x := by first | exact Or.inl rfl | exact Or.inr (Or.inl rfl) | exact Or.inr (Or.inr rfl))
    (hd : (x == ("__debug__" : Str)) = false := by decide) (hcd : (x == ("__classdict__" : Str)) = false := by decide)
    (hbase : attributeBase (.Name x p1) "append" X.env (eval (.Name x p1) X.env) = eval (.Name x p1) X.env := by rfl)
    (hfew : ((backTo p (starEach [e] X.env)).all (fun x => !x.1) && (backToKw p (keywordEach [] X.env)).all (fun x => x.1.isSome) && decide ([e].length + ([] : List Keyword).length + (if ([] : List Keyword).isEmpty then 0 else 1) < 30)) = true := by rfl)
    (hline : (p2.endLine == p.line) = true := by rfl) (hs1 : starEach [e] X.env = (false, eval e X.env) :: starEach [] X.env := by rfl) (hplain : (backTo p (starEach [] X.env)).any (·.1) = false := by rfl)
    (hs : swapsWith (.Call (.Attribute (.Name x p1) "append" p2) [e] [] p) none pos.line X.env = pure false := by rfl) : W1 X C Γ (.Expr (.Call (.Attribute (.Name x p1) "append" p2) [e] [] p) pos) Q :=
  w1_of (ps_expr (pe_bm PySem.F.plainAttrs_list PySem.F.slot_list_append PySem.F.type_list_append mt_append (pe_var hN hv hd hcd) (pa_cons pe_can pa_nil hs1) hbase hfew hline hs1 hplain) hs) fun σ ps H S => by
    obtain ⟨a, u, e1, e2, e3, vs, rfl, e5⟩ := S.getO h
    refine ⟨_, e1, .inl ⟨rfl, vs, .inl (.inl e3)⟩, he σ ps H S _ fun v H1 t1 ⟨d, hd, r1⟩ => ?_⟩
    have S1 := S.step t1
    obtain ⟨a', u', f1, f2, f3, ws, rfl, f5⟩ := S1.getO h
    rw [e1] at f1
    cases f1
    refine ⟨a, ws, v, rfl, rfl, f3, by rw [dpAll_len f5]; exact line_lt hz, _, ps, S1.mutS h f2 e1 (u := .lst (ws ++ [v])) (w' := .lst (ds ++ [d])) ⟨_, rfl, dpAll_app f5 (dpAll_one r1)⟩, (Frm.stp t1).trans (.mut (List.mem_of_getElem? f2)), hq d hd⟩
end
end Fw
namespace Fw
open PySem PySem.Spec PyProof.Rows L2
section
variable {X : Cx} {C : Ct} {Γ : List Slot} {elt tg iter tg1 iter1 : Expr} {ifs ifs1 : List Expr} {scope : Scope} {pos : Pos} {α β : Type}
abbrev gB (X : Cx) (scope : Scope) (tg : Expr) : TG := fun v σ H Q => ∀ (s : Shared) (H1 : Hp) (Cc : Addr) (cl : List (Str × Addr)) (fp : List Addr), gcan (X.blk s H1 scope (compEnvC scope cl Cc X.env) fp) tg v σ H Q
abbrev tB (X : Cx) (scope : Scope) (ifs : List Expr) : TT := fun σ H Q => ∀ (s : Shared) (H1 : Hp) (Cc : Addr) (cl : List (Str × Addr)) (fp : List Addr) pins s', Inv (X.blk s H1 scope (compEnvC scope cl Cc X.env) fp) pins σ H s' →
  wpAny (model X.prog X.w) X.A (forIn ifs true fun c r => if r = true then do let ok ← isTrue c (compEnvC scope cl Cc X.env) (eval c (compEnvC scope cl Cc X.env)); pure (ForInStep.yield ok) else pure (ForInStep.yield r)) (TP (X.blk s H1 scope (compEnvC scope cl Cc X.env) fp) pins σ Q) (fun _ _ => False) s'
abbrev eB (X : Cx) (scope : Scope) (elt : Expr) : TE := fun σ H Q => ∀ (s : Shared) (H1 : Hp) (Cc : Addr) (cl : List (Str × Addr)) (fp : List Addr), tcan (X.blk s H1 scope (compEnvC scope cl Cc X.env) fp) elt σ H Q
abbrev iB (X : Cx) (scope : Scope) (tg iter : Expr) : TI := fun σ H R => ∀ (s : Shared) (H1 : Hp) (Cc : Addr) (cl : List (Str × Addr)) (fp : List Addr), ican (X.blk s H1 scope (compEnvC scope cl Cc X.env) fp) tg iter σ H R
def out2 (p1 : α → Bool) (ys : α → List β) (p2 : α → β → Bool) (g : α → β → PyData) (xs : List α) : List PyData := (xs.filter p1).flatMap fun x => ((ys x).filter (p2 x)).map (g x)
theorem out2_len {p1 : α → Bool} {ys : α → List β} {p2 : α → β → Bool} {g : α → β → PyData} {B : Nat} : ∀ {xs : List α}, (∀ x ∈ xs, (ys x).length ≤ B) → (out2 p1 ys p2 g xs).length ≤ xs.length * B
  | [], _ => by unfold out2; simp
  | x :: xs, h => by
    have ih := out2_len (p1 := p1) (p2 := p2) (g := g) (xs := xs) fun y hy => h y (List.mem_cons_of_mem _ hy)
    have hx := h x List.mem_cons_self
    unfold out2 at ih ⊢
    rw [List.filter_cons]
    have h2 := List.length_filter_le (p2 x) (ys x)
    rw [List.length_cons, Nat.succ_mul]
    split
    · rw [List.flatMap_cons, List.length_append, List.length_map]
      omega
    · omega
theorem lc2_read {vs vs1 : List Nat} {xs : List α} {f : α → PyData} {p1 : α → Bool} {ys : α → List β} {f1 : β → PyData} {p2 : α → β → Bool} {g : α → β → PyData} {Γt : α → List Slot} {Γ2 : α → β → List Slot} {is is2 : List Nat} (A B : Nat)
    (hi : GI X C Γ tg iter (xs.map f)) (hv : notOwns Γ vs = true) (hA : xs.length ≤ A) (hB : ∀ x ∈ xs, (ys x).length ≤ B) (hAB : A * B ≤ 1000000) (his : is.all (fun i => vs.contains i) = true) (his2 : is2.all (fun i => vs1.contains i) = true)
    (hg : ∀ x ∈ xs, Blks X scope fun Y => GG Y C (wipeG Γ vs) tg (f x) (Γt x) is) (ht : ∀ x ∈ xs, Blks X scope fun Y => GTs Y C (Γt x) ifs (p1 x))
    (hi1 : ∀ x ∈ xs, p1 x = true → Blks X scope fun Y => GI Y C (Γt x) tg1 iter1 ((ys x).map f1)) (hv1 : ∀ x ∈ xs, notOwns (Γt x) vs1 = true)
    (hg1 : ∀ x ∈ xs, p1 x = true → ∀ y ∈ ys x, Blks X scope fun Y => GG Y C (wipeG (Γt x) vs1) tg1 (f1 y) (Γ2 x y) is2) (ht1 : ∀ x ∈ xs, p1 x = true → ∀ y ∈ ys x, Blks X scope fun Y => GTs Y C (Γ2 x y) ifs1 (p2 x y))
    (he : ∀ x ∈ xs, p1 x = true → ∀ y ∈ ys x, p2 x y = true → Blks X scope fun Y => GE Y C (Γ2 x y) elt (g x y))
    (σ : L2.St) (ps : List (Option Addr)) (H : Hp) (S : StOk X.K C Γ σ ps H) (Q : VK) (q : ∀ v H', Stp C H H' → rNew X.K C (out2 p1 ys p2 g xs) ps H H' v → Q v H') :
    tLc2 (ican X tg iter) (gB X scope tg) (tB X scope ifs) (iB X scope tg1 iter1) (gB X scope tg1) (tB X scope ifs1) (eB X scope elt) vs vs1 σ H Q := by
  refine hi σ ps H S _ fun J H1 t1 Y D hD => ?_
  have S1 := S.step t1
  have SW : StOk X.K C (wipeG Γ vs) (wipe σ vs) (ps ++ [some D]) (upd H1 D (.lst [])) := (S1.wipe hv).more hD
  have hmem : some D ∈ ps ++ [some D] := List.mem_append_right _ (by simp)
  have nps : some D ∉ ps := fun z => (S1.freshN hD).1 (.inr z)
  have hidx : ∀ (Γ' : List Slot), Γ'.length = Γ.length → ∀ (i : Nat), i < Γ'.length → (ps ++ [some D])[i]? ≠ some (some D) := fun Γ' hl i hi z => by
    have : i < ps.length := Nat.lt_of_lt_of_le (by rw [hl] at hi; rw [← S.l1]; exact hi) S.l2
    rw [List.getElem?_append_left this] at z
    exact nps (List.mem_of_getElem? z)
  have nMD := S1.noMn (ntd_none hD)
  have ownD : ∀ {H2 : Hp} {σ' : L2.St} {Γ' : List Slot}, StOk X.K C Γ' σ' (ps ++ [some D]) H2 → ∀ a, OO C (ps ++ [some D]) a → NTd H2 a := fun S' a z => by
    rcases z with z | z
    · exact S'.dom a (S'.od a z)
    · exact S'.th a z
  have oo : ∀ a, OO C (ps ++ [some D]) a → OO C ps a ∨ a = D := fun a z => by
    rcases z with z | z
    · exact .inl (.inl z)
    · rcases List.mem_append.mp z with z | z
      · exact .inl (.inr z)
      · exact .inr (by simpa using z)
  have wl : ∀ (vs : List Nat), (wipe σ vs).length = σ.length := fun vs => wipe_length _ _
  refine ⟨fun i m H2 => m = xs.length - i ∧ i ≤ xs.length ∧ StOk X.K C (wipeG Γ vs) (wipe σ vs) (ps ++ [some D]) H2 ∧ (∀ a o, H1 a = some o → ¬ C.M a o → H2 a = some o) ∧ (∀ a, NTd H1 a → NTd H2 a) ∧
      ∃ ws, H2 D = some (.lst ws) ∧ DpAll X.K (hid (OO C (ps ++ [some D])) H2) ws (out2 p1 ys p2 g (xs.take i)),
    ⟨xs.length, by simp, Nat.zero_le _, SW, fun a o e _ => same_new hD a o e, fun a e => ntd_upd trivial e, [], upd_same, .nil⟩, ?_⟩
  rintro i m H2 ⟨rfl, hi', S2, k1, k2, ws, hws, dws⟩
  have yy := Y (OO C (ps ++ [some D])) H2 (fun a o e nt n => k1 a o e fun z => n (.inl (C.MO a o nt z))) (fun a z => (oo a z).imp id fun e => by rw [e]; exact ntd_none hD) (ownD S2)
  rw [List.length_map] at yy
  by_cases hlt : i < xs.length
  · have hx : xs[i]? = some xs[i] := List.getElem?_eq_getElem hlt
    obtain ⟨go, yld⟩ := yy.1 i (f xs[i]) (by rw [List.getElem?_map, hx]; rfl)
    have hmx : xs[i] ∈ xs := List.getElem_mem hlt
    generalize hxx : xs[i] = x at hx hmx yld
    have take1 : xs.take (i + 1) = xs.take i ++ [x] := by
      rw [List.take_add_one, hx]
      rfl
    have out1 : out2 p1 ys p2 g (xs.take (i + 1)) = out2 p1 ys p2 g (xs.take i) ++ (if p1 x = true then ((ys x).filter (p2 x)).map (g x) else []) := by
      unfold out2
      rw [take1, List.filter_append, List.filter_cons, List.filter_nil, List.flatMap_append]
      split
      · rw [List.flatMap_cons, List.flatMap_nil, List.append_nil]
      · rfl
    refine .inr ⟨go, fun H' => StOk X.K C (wipeG Γ vs) (wipe σ vs) (ps ++ [some D]) H' ∧ (∀ a o, H1 a = some o → ¬ C.M a o → H' a = some o) ∧ (∀ a, NTd H1 a → NTd H' a) ∧
      ∃ ws, H' D = some (.lst ws) ∧ DpAll X.K (hid (OO C (ps ++ [some D])) H') ws (out2 p1 ys p2 g (xs.take (i + 1))), fun H' n => ⟨xs.length - (i + 1), by omega, rfl, hlt, n⟩, fun v H3 y => ?_⟩
    obtain ⟨sm, dx⟩ := yld v H3 y
    have t3 : Stp C H2 H3 := .same S2 sm
    have S3 := S2.step t3
    have hD3 := sm D _ hws
    intro s Ha Cc cl fp
    refine hg x hmx s Ha Cc cl fp _ _ H3 v S3 dx _ fun σ' S4 l4 m4 => ⟨?_, ?_⟩
    · refine (wipe_ext (by rw [l4]) fun j hj => m4 j fun z => hj ?_).trans ?_
      · have := List.all_eq_true.mp his j z
        simpa using this
      · refine wipe_ext (by rw [wipe_length]) fun j hj => ?_
        have key : ∀ (vs : List Nat), j ∉ vs → (wipe σ vs)[j]? = σ[j]? := fun vs => by
          induction vs with
          | nil => intro _; rfl
          | cons v vs ih =>
            intro hn
            unfold wipe
            rw [List.getElem?_set_ne (fun z => hn (by rw [z]; exact List.mem_cons_self)), ih fun z => hn (List.mem_cons_of_mem _ z)]
        exact key _ hj
    · intro s Ha Cc cl fp pins s' I'
      have hG : (Γt x).length = Γ.length := by
        rw [S4.l1, l4, wipe_length, S.l1]
      refine ht x hmx s Ha Cc cl fp σ' _ H3 S4 _ (fun H4 t4 => ?_) pins s' I'
      have S5 := S3.step t4
      have S5' := S4.step t4
      have hD4 := t4.fr D _ hD3 (nMD _ trivial)
      have dws4 := dpAll_mono (Same.trans t3.hid t4.hid) dws
      have k14 : ∀ a o, H1 a = some o → ¬ C.M a o → H4 a = some o := fun a o e n => t4.fr a o (sm a o (k1 a o e n)) n
      have k24 : ∀ a, NTd H1 a → NTd H4 a := fun a e => t4.dom a (t3.dom a (k2 a e))
      cases hp : p1 x with
      | false =>
        show _ ∧ _
        refine ⟨S5, k14, k24, ws, hD4, ?_⟩
        rw [out1, hp, if_neg Bool.false_ne_true, List.append_nil]
        exact dws4
      | true =>
        show ∀ s H1 Cc cl fp, ican _ tg1 iter1 σ' H4 _
        intro s Ha Cc cl fp
        refine hi1 x hmx hp s Ha Cc cl fp σ' _ H4 S5' _ fun J1 H5 t5 Y1 => ?_
        have S6 := S5.step t5
        have S6' := (S5'.step t5).wipe (hv1 x hmx)
        have hD5 := t5.fr D _ hD4 (nMD _ trivial)
        refine ⟨fun j k H6 => k = (ys x).length - j ∧ j ≤ (ys x).length ∧ StOk X.K C (wipeG Γ vs) (wipe σ vs) (ps ++ [some D]) H6 ∧ StOk X.K C (wipeG (Γt x) vs1) (wipe σ' vs1) (ps ++ [some D]) H6 ∧
            (∀ a o, H5 a = some o → ¬ C.M a o → a ≠ D → H6 a = some o) ∧ (∀ a, NTd H5 a → NTd H6 a) ∧
            ∃ ws, H6 D = some (.lst ws) ∧ DpAll X.K (hid (OO C (ps ++ [some D])) H6) ws (out2 p1 ys p2 g (xs.take i) ++ (((ys x).take j).filter (p2 x)).map (g x)),
          ⟨(ys x).length, by simp, Nat.zero_le _, S6, S6', fun a o e _ _ => e, fun a e => e, ws, hD5, by
            rw [List.take_zero]
            show DpAll _ _ ws (_ ++ [])
            rw [List.append_nil]
            exact dpAll_mono t5.hid dws4⟩, ?_⟩
        rintro j k H6 ⟨rfl, hj', T2, T2', l1, l2, us, hus, dus⟩
        have y1 := Y1 (OO C (ps ++ [some D])) H6 (fun a o e nt n => l1 a o e (fun z => n (.inl (C.MO a o nt z))) fun z => n (by rw [z]; exact .inr hmem)) (fun a z => .inl z) (ownD T2)
        rw [List.length_map] at y1
        have kk1 : ∀ a o, H1 a = some o → ¬ C.M a o → H6 a = some o := fun a o e n => l1 a o (t5.fr a o (k14 a o e n) n) n (ne_of_none e hD)
        have kk2 : ∀ a, NTd H1 a → NTd H6 a := fun a e => l2 a (t5.dom a (k24 a e))
        by_cases hjt : j < (ys x).length
        · have hy : (ys x)[j]? = some (ys x)[j] := List.getElem?_eq_getElem hjt
          obtain ⟨go1, yld1⟩ := y1.1 j (f1 (ys x)[j]) (by rw [List.getElem?_map, hy]; rfl)
          have hmy : (ys x)[j] ∈ ys x := List.getElem_mem hjt
          generalize hyy : (ys x)[j] = yv at hy hmy yld1
          have take2 : (ys x).take (j + 1) = (ys x).take j ++ [yv] := by
            rw [List.take_add_one, hy]
            rfl
          refine .inr ⟨go1, fun H' => StOk X.K C (wipeG Γ vs) (wipe σ vs) (ps ++ [some D]) H' ∧ StOk X.K C (wipeG (Γt x) vs1) (wipe σ' vs1) (ps ++ [some D]) H' ∧
            (∀ a o, H5 a = some o → ¬ C.M a o → a ≠ D → H' a = some o) ∧ (∀ a, NTd H5 a → NTd H' a) ∧
            ∃ ws, H' D = some (.lst ws) ∧ DpAll X.K (hid (OO C (ps ++ [some D])) H') ws (out2 p1 ys p2 g (xs.take i) ++ (((ys x).take (j + 1)).filter (p2 x)).map (g x)), fun H' n => ⟨(ys x).length - (j + 1), by omega, rfl, hjt, n⟩, fun v H7 yy7 => ?_⟩
          obtain ⟨sm1, dy⟩ := yld1 v H7 yy7
          have t7 : Stp C H6 H7 := .same T2 sm1
          have T3 := T2.step t7
          have T3' := T2'.step t7
          have hD7 := sm1 D _ hus
          intro s Ha Cc cl fp
          refine hg1 x hmx hp yv hmy s Ha Cc cl fp _ _ H7 v T3' dy _ fun σ2 T4 l4' m4' => ⟨?_, ?_⟩
          · refine (wipe_ext (by rw [l4']) fun jj hj => m4' jj fun z => hj ?_).trans ?_
            · have := List.all_eq_true.mp his2 jj z
              simpa using this
            · refine wipe_ext (by rw [wipe_length]) fun jj hj => ?_
              have key : ∀ (vs : List Nat), jj ∉ vs → (wipe σ' vs)[jj]? = σ'[jj]? := fun vs => by
                induction vs with
                | nil => intro _; rfl
                | cons v vs ih =>
                  intro hn
                  unfold wipe
                  rw [List.getElem?_set_ne (fun z => hn (by rw [z]; exact List.mem_cons_self)), ih fun z => hn (List.mem_cons_of_mem _ z)]
              exact key _ hj
          · intro s Ha Cc cl fp pins s' I'
            refine ht1 x hmx hp yv hmy s Ha Cc cl fp σ2 _ H7 T4 _ (fun H8 t8 => ?_) pins s' I'
            have T5 := T3.step t8
            have T5' := T3'.step t8
            have hD8 := t8.fr D _ hD7 (nMD _ trivial)
            cases hp2 : p2 x yv with
            | false =>
              show _ ∧ _
              refine ⟨T5, T5', fun a o e n nd => t8.fr a o (sm1 a o (l1 a o e n nd)) n, fun a e => t8.dom a (t7.dom a (l2 a e)), us, hD8, ?_⟩
              rw [take2, List.filter_append, List.filter_cons, hp2, if_neg Bool.false_ne_true, List.filter_nil, List.append_nil]
              exact dpAll_mono (Same.trans t7.hid t8.hid) dus
            | true =>
              show ∀ s H1 Cc cl fp, tcan _ elt σ2 H8 _
              intro s Ha Cc cl fp
              refine he x hmx hp yv hmy hp2 s Ha Cc cl fp σ2 _ H8 (T4.step t8) _ fun v H9 t9 r9 => ?_
              have T6 := T5.step t9
              have T6' := T5'.step t9
              have hD9 := t9.fr D _ hD8 (nMD _ trivial)
              have dus9 := dpAll_mono (Same.trans (Same.trans t7.hid t8.hid) t9.hid) dus
              refine ⟨us, hD9, ?_, T6.mutX hmem hD9 (fun z => z) (hidx _ (wipeG_length _ _)), T6'.mutX hmem hD9 (fun z => z) (hidx _ ((wipeG_length _ _).trans hG)), fun a o e n nd => ?_, fun a e => ntd_upd trivial (t9.dom a (t8.dom a (t7.dom a (l2 a e)))), us ++ [v], upd_same, ?_⟩
              · rw [dpAll_len dus, List.length_append, List.length_map]
                have h1 := List.length_filter_le (p2 x) ((ys x).take j)
                have h2 := List.length_take_le j (ys x)
                have h3 := out2_len (p1 := p1) (p2 := p2) (g := g) (B := B) (xs := xs.take i) fun z hz => hB z (List.mem_of_mem_take hz)
                have h4 := hB x hmx
                rw [List.length_take, Nat.min_eq_left hi'] at h3
                have h5 : i * B + B ≤ A * B := by
                  rw [← Nat.succ_mul]
                  exact Nat.mul_le_mul_right B (by omega)
                exact line_lt (by omega)
              · rw [upd_ne nd]
                exact t9.fr a o (t8.fr a o (sm1 a o (l1 a o e n nd)) n) n
              · rw [hid_mut hmem, take2, List.filter_append, List.filter_cons, hp2, if_pos rfl, List.filter_nil, List.map_append, ← List.append_assoc]
                exact dpAll_app dus9 (dpAll_one r9)
        · have ej : j = (ys x).length := by omega
          subst ej
          refine .inl ⟨y1.2, T2, kk1, kk2, us, hus, ?_⟩
          rw [List.take_length] at dus
          rw [out1, hp, if_pos rfl]
          exact dus
  · have ei : i = xs.length := by omega
    subst ei
    rw [List.take_length] at dws
    refine .inl ⟨yy.2, q _ H2 ⟨fun a o e n => k1 a o (t1.fr a o e n) n, fun a e => k2 a (t1.dom a e), S2.inv⟩ ⟨D, ws, rfl, t1.back (ntd_none hD), hws, dpAll_mono (hid_same fun a o n e => ⟨fun z => n ?_, e⟩) dws⟩⟩
    rcases z with (z | z) | z
    · exact .inl z
    · exact .inr (List.mem_append_left _ z)
    · exact .inr (by rw [z]; exact hmem)
end
end Fw
namespace Fw
open PySem PySem.Spec PyProof.Rows L2
section
variable {X : Cx} {C : Ct} {Γ : List Slot} {elt tg iter tg1 iter1 c c1 : Expr} {ifs ifs1 : List Expr} {scope : Scope} {pos : Pos} {α β : Type}
theorem gl_lc2 {own : List (Str × Nat)} {vs1 : List Nat} {xs : List α} {f : α → PyData} {p1 : α → Bool} {ys : α → List β} {f1 : β → PyData} {p2 : α → β → Bool} {g : α → β → PyData} {Γt : α → List Slot} {Γ2 : α → β → List Slot} {is is2 : List Nat} (A B : Nat) (hc : X.calm = true) (hN : X.N.Nodup)
    (hi : GI X C Γ tg iter (xs.map f)) (hA : xs.length ≤ A) (hB : ∀ x ∈ xs, (ys x).length ≤ B) (hAB : A * B ≤ 1000000)
    (hg : ∀ x ∈ xs, Blks X scope fun Y => GG Y C (wipeG Γ (own.map (·.2))) tg (f x) (Γt x) is) (ht : ∀ x ∈ xs, Blks X scope fun Y => GTs Y C (Γt x) ifs (p1 x))
    (hi1 : ∀ x ∈ xs, p1 x = true → Blks X scope fun Y => GI Y C (Γt x) tg1 iter1 ((ys x).map f1)) (hv1 : ∀ x ∈ xs, notOwns (Γt x) vs1 = true)
    (hg1 : ∀ x ∈ xs, p1 x = true → ∀ y ∈ ys x, Blks X scope fun Y => GG Y C (wipeG (Γt x) vs1) tg1 (f1 y) (Γ2 x y) is2) (ht1 : ∀ x ∈ xs, p1 x = true → ∀ y ∈ ys x, Blks X scope fun Y => GTs Y C (Γ2 x y) ifs1 (p2 x y))
    (he : ∀ x ∈ xs, p1 x = true → ∀ y ∈ ys x, p2 x y = true → Blks X scope fun Y => GE Y C (Γ2 x y) elt (g x y))
    (ok : BlkOk X.N X.env.scope scope own := by exact blkOk_by (by kernel_rfl)) (hv : notOwns Γ (own.map (·.2)) = true := by rfl) (his : is.all (fun i => (own.map (·.2)).contains i) = true := by rfl) (his2 : is2.all (fun i => vs1.contains i) = true := by rfl)
    (hvv : ∀ i ∈ vs1, i ∈ own.map (·.2) := by decide) (hs : ∀ x, foldedSetIterable iter X.env x = pure x := by intro _; rfl) (hs1 : ∀ env x, foldedSetIterable iter1 env x = pure x := by intro _ _; rfl) :
    GL X C Γ (.ListComp elt [⟨tg, iter, ifs, 0⟩, ⟨tg1, iter1, ifs1, 0⟩] scope pos) (out2 p1 ys p2 g xs) :=
  gx_of (pe_lc2 (own := own) (vs1 := vs1) (wi := ican X tg iter) (g := gB X scope tg) (tt := tB X scope ifs) (wi1 := iB X scope tg1 iter1) (g1 := gB X scope tg1) (tt1 := tB X scope ifs1) (te := eB X scope elt) hc hN pi_can ok hvv
    (fun s H Cc cl fp => ⟨fun pins s' σ H v u Q I r h => h s _ Cc cl fp pins s' u I r⟩) (fun s H Cc cl fp => ⟨fun pins s' σ H Q I h => h s _ Cc cl fp pins s' I⟩) (fun s H Cc cl fp => ⟨fun pins s' σ H R I h => h s _ Cc cl fp pins s' I⟩)
    (fun s H Cc cl fp => ⟨fun pins s' σ H v u Q I r h => h s _ Cc cl fp pins s' u I r⟩) (fun s H Cc cl fp => ⟨fun pins s' σ H Q I h => h s _ Cc cl fp pins s' I⟩) (fun s H Cc cl fp => ⟨fun pins s' σ H Q I h => h s _ Cc cl fp pins s' I⟩) hs hs1)
    fun σ ps H S Q q => lc2_read A B hi hv hA hB hAB his his2 hg ht hi1 hv1 hg1 ht1 he σ ps H S Q q
end
section
variable {X : Cx} {C : Ct} {Γ : List Slot} {e a b c : Expr} {d : PyData} {ds : List PyData} {pos p p2 : Pos}
theorem rgV_dp {K : PySem.W.Frag} {G : Hp} (lo hi : Int) : DpAll K G (rgV lo hi) (rngD lo (hi - lo).toNat) := by
  unfold rgV rngD
  generalize (List.range (hi - lo).toNat) = l
  induction l with
  | nil => exact .nil
  | cons x l ih => exact .cons (.int _) ih
/-- tuple(range(n)) -/
theorem ge_tupRg1 {n : Int} (hc : X.calm = true) (hm : X.mg "tuple" = none) (hm2 : X.mg "range" = none) (h : GE X C Γ a (.int n)) (h0 : 0 ≤ n) (h1 : n ≤ 1000000) (hg : Gl X "tuple" := by rfl) (hg2 : Gl X "range" := by rfl)
    (na : starEach [a] X.env = (false, eval a X.env) :: starEach [] X.env := by rfl) (na2 : starEach [.Call (.Name "range" p2) [a] [] p] X.env = (false, eval (.Call (.Name "range" p2) [a] [] p) X.env) :: starEach [] X.env := by rfl) {p3 : Pos} :
    GE X C Γ (.Call (.Name "tuple" p3) [.Call (.Name "range" p2) [a] [] p] [] pos) (.tuple (rngD 0 n.toNat)) :=
  gx_of (pe_tupRg hc hg hm (prg_1 hg2 hm2 pe_can na) na2) fun σ ps H S Q q => h σ ps H S _ fun v H1 t1 r1 => ⟨n, dp_int r1, .of_le (by decide) (by omega) (by decide) h0, fun p hp => by
    have S1 := S.step t1
    refine q _ _ (t1.trans (.new S1 hp)) (Dp.tup (xs := rgV 0 n) (.inl (.inl ?_)) ?_)
    · exact hid_is ((S1.freshN hp).1) upd_same trivial
    · have := rgV_dp (K := X.K) (G := hid (OO C ps) (upd H1 p (.tup (rgV 0 n)))) 0 n
      rw [Int.sub_zero] at this
      exact this⟩
/-- list(range(n)) -/
theorem gl_lstRg1 {n : Int} (hc : X.calm = true) (hm : X.mg "list" = none) (hm2 : X.mg "range" = none) (h : GE X C Γ a (.int n)) (h0 : 0 ≤ n) (h1 : n ≤ 1000000) (hg : Gl X "list" := by rfl) (hg2 : Gl X "range" := by rfl)
    (na : starEach [a] X.env = (false, eval a X.env) :: starEach [] X.env := by rfl) (na2 : starEach [.Call (.Name "range" p2) [a] [] p] X.env = (false, eval (.Call (.Name "range" p2) [a] [] p) X.env) :: starEach [] X.env := by rfl) {p3 : Pos} :
    GL X C Γ (.Call (.Name "list" p3) [.Call (.Name "range" p2) [a] [] p] [] pos) (rngD 0 n.toNat) :=
  gx_of (pe_listRg hc hg hm (prg_1 hg2 hm2 pe_can na) na2) fun σ ps H S Q q => h σ ps H S _ fun v H1 t1 r1 => ⟨n, dp_int r1, .of_le (by decide) (by omega) (by decide) h0, fun p hp => by
    have S1 := S.step t1
    refine q _ _ (t1.trans (.new S1 hp)) ⟨p, _, rfl, fun z => ntd_none hp (t1.dom p z), upd_same, ?_⟩
    have := rgV_dp (K := X.K) (G := hid (fun b => OO C ps b ∨ b = p) (upd H1 p (.lst (rgV 0 n)))) 0 n
    rw [Int.sub_zero] at this
    exact this⟩
def rInT (K : PySem.W.Frag) : R2 := fun x y H Q => ∃ d ds, Dp K H x d ∧ Dp K H y (.tuple ds) ∧ SeqAt.shaped d = true ∧ SeqAt.shaped (.tuple ds) = true ∧ Q (.bl (ds.any fun z => PyData.eqv z d)) H
theorem op_inT (hu : X.A.units + 65 < cLine) : OpR X (compareOp .In) (rInT X.K) := by
  intro pins s σ H x y v u Q I rx ry h
  obtain ⟨d, ds, hd, he, sd, se, q⟩ := h
  obtain ⟨as, r1⟩ := Dp.reads I d x v hd rx
  obtain ⟨bs, r2⟩ := Dp.reads I (.tuple ds) y u he ry
  exact SeqAt.in_tuple_reads r2 r1 (SeqAt.canLay_of_shaped se) (SeqAt.canLay_of_shaped sd) (room_in_shaped sd hu) ⟨.bl _, H, I, rfl, q⟩
theorem gt_inT (hu : X.A.units + 65 < cLine) (ha : GE X C Γ a d) (hb : GR X C Γ b (.tuple ds)) (s1 : SeqAt.shaped d = true) (s2 : SeqAt.shaped (.tuple ds) = true) (hm : behindInMarks .In b = false := by rfl) : GT X C Γ (.Compare a [.In] [b] pos) (ds.any fun z => PyData.eqv z d) :=
  gt_cmpX (op_inT hu) ha hb hm fun σ ps H H1 H2 x y S t r1 r2 Q q => ⟨d, ds, dp_mono hid_sub (dp_mono t.hid r1), r2, s1, s2, q H2 (.refl S.inv)⟩
end
end Fw
namespace Fw
open PySem PySem.Spec PyProof.Rows L2
section
variable {X : Cx} {C : Ct} {Γ : List Slot} {a b : Expr} {d : PyData} {pos p p2 : Pos} {CB : Addr} {k n : Nat}
theorem gt_alike (Ca : Cal X.prog X.w X.K X.mg X.base CB k "_law_alike" 2 (F_alike n)) (hr : Room k X.A) (ha : GE X C Γ a d) (hb : GE X C Γ b d) (hs : simpD n d = true) (hg : Gl X "_law_alike" := by rfl)
    (he : starEach [a, b] X.env = (false, eval a X.env) :: starEach [b] X.env := by rfl) (he2 : starEach [b] X.env = (false, eval b X.env) :: starEach [] X.env := by rfl) (hpl : (backTo p2 (starEach [b] X.env)).any (·.1) = false := by rfl)
    (hv : ∀ whole, isTrue (.Call (.Name "_law_alike" p) [a, b] [] p2) X.env whole = (do let v ← whole; standAt p2; holding [v] (truthy v)) := by intro _; rfl) : GT X C Γ (.UnaryOp .Not (.Call (.Name "_law_alike" p) [a, b] [] p2) pos) false :=
  gt_cast (gt_not (gt_val (ge_gn (gn_call Ca hr (ga_cons ha (ga_cons hb ga_nil he2) he) rfl ⟨d, rfl, hs, rfl⟩ hg (by decide) he hpl)) hv)) rfl
end
end Fw
namespace Fw
open PySem PySem.Spec PyProof.Rows L2
theorem eqv_lnil (ds : List PyData) : PyData.eqv (.list ds) (.list []) = ds.isEmpty := by cases ds <;> simp [PyData.eqv, PyData.eqvAll]
theorem eqv_tnil (ds : List PyData) : PyData.eqv (.tuple ds) (.tuple []) = ds.isEmpty := by cases ds <;> simp [PyData.eqv, PyData.eqvAll]
section
variable {X : Cx} {C : Ct} {Γ : List Slot} {elt tg iter tg1 iter1 c c1 : Expr} {ifs ifs1 : List Expr} {scope : Scope} {pos : Pos} {α β : Type} {Q : PQ}
theorem w1_setM2 (i : Nat) {y : Str} {py spos : Pos} {vs1 : List Nat} {xs : List α} {f : α → PyData} {p1 : α → Bool} {ys : α → List β} {f1 : β → PyData} {p2 : α → β → Bool} {g : α → β → PyData} {Γt : α → List Slot} {Γ2 : α → β → List Slot} {is is2 : List Nat} (own : List (Str × Nat)) (A B : Nat) (hc : X.calm = true) (hN : X.N.Nodup)
    (hi : GI X C Γ tg iter (xs.map f)) (hA : xs.length ≤ A) (hB : ∀ x ∈ xs, (ys x).length ≤ B) (hAB : A * B ≤ 1000000)
    (hg : ∀ x ∈ xs, Blks X scope fun Y => GG Y C (wipeG Γ (own.map (·.2))) tg (f x) (Γt x) is) (ht : ∀ x ∈ xs, Blks X scope fun Y => GTs Y C (Γt x) ifs (p1 x))
    (hi1 : ∀ x ∈ xs, p1 x = true → Blks X scope fun Y => GI Y C (Γt x) tg1 iter1 ((ys x).map f1)) (hv1 : ∀ x ∈ xs, notOwns (Γt x) vs1 = true)
    (hg1 : ∀ x ∈ xs, p1 x = true → ∀ y ∈ ys x, Blks X scope fun Y => GG Y C (wipeG (Γt x) vs1) tg1 (f1 y) (Γ2 x y) is2) (ht1 : ∀ x ∈ xs, p1 x = true → ∀ y ∈ ys x, Blks X scope fun Y => GTs Y C (Γ2 x y) ifs1 (p2 x y))
    (he : ∀ x ∈ xs, p1 x = true → ∀ y ∈ ys x, p2 x y = true → Blks X scope fun Y => GE Y C (Γ2 x y) elt (g x y)) (hq : Q.nx (Γ.set i (.own (.lst (out2 p1 ys p2 g xs)))))
    (ok : BlkOk X.N X.env.scope scope own := by exact blkOk_by (by kernel_rfl)) (hsw : swapsWith (.ListComp elt [⟨tg, iter, ifs, 0⟩, ⟨tg1, iter1, ifs1, 0⟩] scope pos) (some (.Name y py)) spos.line X.env = pure true := by exact sw_true rfl rfl rfl rfl)
    (hv : notOwns Γ (own.map (·.2)) = true := by rfl) (his : is.all (fun i => (own.map (·.2)).contains i) = true := by rfl) (his2 : is2.all (fun i => vs1.contains i) = true := by rfl)
    (hvv : ∀ i ∈ vs1, i ∈ own.map (·.2) := by decide) (hs : ∀ x, foldedSetIterable iter X.env x = pure x := by intro _; rfl) (hs1 : ∀ env x, foldedSetIterable iter1 env x = pure x := by intro _ _; rfl)
    (hy : X.N[i]? = some y := by rfl) (hyl : X.env.scope.names.lookup y = some .local := by rfl) :
    W1 X C Γ (.Assign [.Name y py] (.ListComp elt [⟨tg, iter, ifs, 0⟩, ⟨tg1, iter1, ifs1, 0⟩] scope pos) spos) Q :=
  w1_of (ps_setLc2 (own := own) (vs1 := vs1) (wi := ican X tg iter) (g := gB X scope tg) (tt := tB X scope ifs) (wi1 := iB X scope tg1 iter1) (g1 := gB X scope tg1) (tt1 := tB X scope ifs1) (te := eB X scope elt) hc hN hy hyl hsw pi_can ok hvv
    (fun s H Cc cl fp => ⟨fun pins s' σ H v u Q I r h => h s _ Cc cl fp pins s' u I r⟩) (fun s H Cc cl fp => ⟨fun pins s' σ H Q I h => h s _ Cc cl fp pins s' I⟩) (fun s H Cc cl fp => ⟨fun pins s' σ H R I h => h s _ Cc cl fp pins s' I⟩)
    (fun s H Cc cl fp => ⟨fun pins s' σ H v u Q I r h => h s _ Cc cl fp pins s' u I r⟩) (fun s H Cc cl fp => ⟨fun pins s' σ H Q I h => h s _ Cc cl fp pins s' I⟩) (fun s H Cc cl fp => ⟨fun pins s' σ H Q I h => h s _ Cc cl fp pins s' I⟩) hs hs1)
    fun σ ps H S => lc2_read A B hi hv hA hB hAB his his2 hg ht hi1 hv1 hg1 ht1 he σ ps H S _ fun v H1 t1 ⟨a, vs, e1, e2, e3, e4⟩ => by
      subst e1
      exact ⟨_, _, S.putN (w := .lst _) t1 e2 e3 ⟨vs, rfl, e4⟩, .new t1 e2, hq⟩
end
end Fw
namespace Fw
open PySem PySem.Spec PyProof.Rows L2
def litC : Const → Option PyData
  | .none => some .none
  | .int i => some (.int i)
  | .bool b => some (.bool b)
  | .str x => some (.str x)
  | _ => none
def litL (f : Expr → Option PyData) : List Expr → Option (List PyData)
  | [] => some []
  | e :: es => match f e with
    | some d => (match litL f es with
      | some ds => some (d :: ds)
      | none => none)
    | none => none
/-- what a literal tells -/
def litD : Nat → Expr → Option PyData
  | 0, _ => none
  | n + 1, .Constant c _ _ => litC c
  | n + 1, .UnaryOp .USub (.Constant (.int i) _ _) _ => some (.int (-i))
  | n + 1, .Tuple es _ _ => (match litL (litD n) es with
    | some ds => if ds.length.ble 1000000 then some (.tuple ds) else none
    | none => none)
  | n + 1, .List es _ => (match litL (litD n) es with
    | some ds => if ds.length.ble 1000000 then some (.list ds) else none
    | none => none)
  | n + 1, .BinOp (.Tuple es _ _) .Mult (.Constant (.int k) _ _) _ => (match litL (litD n) es with
    | some ds => if (!ds.isEmpty && decide (2 ≤ k) && decide (k ≤ 1000) && decide (ds.length ≤ 1000)) = true then some (.tuple (List.replicate k.toNat ds).flatten) else none
    | none => none)
  | _, _ => none
section
variable {X : Cx} {C : Ct} {Γ : List Slot}
theorem star_lit {e : Expr} {es : List Expr} {env : Env} (h : ∀ a p, e ≠ .Starred a p) : starEach (e :: es) env = (false, eval e env) :: starEach es env := by
  cases e <;> first | rfl | exact absurd rfl (h _ _)
theorem ga_lit {f : Expr → Option PyData} : ∀ {es : List Expr} {ds : List PyData}, (∀ e d, f e = some d → GE X C Γ e d ∧ ∀ a p, e ≠ .Starred a p) → litL f es = some ds → GAs X C Γ es ds
  | [], ds, _, h => by
    cases h
    exact ga_nil
  | e :: es, ds, hf, h => by
    unfold litL at h
    cases he : f e with
    | none => rw [he] at h; cases h
    | some d =>
      rw [he] at h
      simp only at h
      cases hs : litL f es with
      | none => rw [hs] at h; cases h
      | some ds' =>
        rw [hs] at h
        cases h
        exact ga_cons (hf e d he).1 (ga_lit hf hs) (star_lit (hf e d he).2)
theorem lit_all : ∀ (n : Nat) (e : Expr) (d : PyData), litD n e = some d → GE X C Γ e d ∧ ∀ a p, e ≠ .Starred a p := by
  intro n
  induction n with
  | zero => intro e d h; cases h
  | succ n ih =>
    intro e d h
    unfold litD at h
    split at h
    · cases ‹_ = _›
    · rename_i c j p e1
      refine ⟨?_, fun a p z => by cases z⟩
      cases c <;> simp only [litC] at h <;> first | (cases h; done) | skip
      all_goals cases h
      · exact ge_non
      · exact ge_bl
      · exact ge_int
      · exact ge_str
    · cases h
      exact ⟨ge_neg ge_int, fun a p z => by cases z⟩
    · cases Nat.succ.inj ‹n + 1 = _›
      cases hs : litL (litD n) ‹List Expr› with
      | none => rw [hs] at h; cases h
      | some ds =>
        rw [hs] at h
        simp only at h
        split at h
        · cases h
          rename_i hb
          exact ⟨ge_tup (ga_lit ih hs) hb, fun a p z => by cases z⟩
        · cases h
    · cases Nat.succ.inj ‹n + 1 = _›
      cases hs : litL (litD n) ‹List Expr› with
      | none => rw [hs] at h; cases h
      | some ds =>
        rw [hs] at h
        simp only at h
        split at h
        · cases h
          rename_i hb
          exact ⟨ge_gl (gl_lst (ga_lit ih hs) hb), fun a p z => by cases z⟩
        · cases h
    · cases Nat.succ.inj ‹n + 1 = _›
      cases hs : litL (litD n) ‹List Expr› with
      | none => rw [hs] at h; cases h
      | some ds =>
        rw [hs] at h
        simp only at h
        split at h
        · cases h
          rename_i hb
          simp only [Bool.and_eq_true, decide_eq_true_eq, Bool.not_eq_true', List.isEmpty_eq_false_iff] at hb
          obtain ⟨⟨⟨b1, b2⟩, b3⟩, b4⟩ := hb
          refine ⟨ge_repT ?_ ge_int b1 b2 b3 b4, fun a p z => by cases z⟩
          exact ge_tup (ga_lit ih hs) (Nat.ble_eq_true_of_le (by omega))
        · cases h
    · cases h
theorem ge_lit (n : Nat) {e : Expr} {d : PyData} (h : litD n e = some d) : GE X C Γ e d := (lit_all n e d h).1
end
theorem strs_shaped (xs : List Str) (h : xs.all PyData.strOk = true) : SeqAt.shaped (.list (xs.map .str)) = true := by
  have a : PyData.canLayAll0 (xs.map .str) = true ∧ PyData.depthAll (xs.map .str) ≤ 1 := by
    induction xs with
    | nil => constructor <;> simp [PyData.canLayAll0, PyData.depthAll]
    | cons x xs ih =>
      rw [List.all_cons, Bool.and_eq_true] at h
      obtain ⟨b1, b2⟩ := ih h.2
      refine ⟨by simp [PyData.canLayAll0, PyData.canLay0, h.1, b1], ?_⟩
      simp only [List.map_cons, PyData.depthAll, PyData.depth]
      omega
  show (PyData.canLay0 (.list (xs.map .str)) && decide (PyData.depth (.list (xs.map .str)) ≤ 64)) = true
  rw [Bool.and_eq_true]
  refine ⟨by simp [PyData.canLay0, a.1], decide_eq_true ?_⟩
  simp only [PyData.depth]
  omega
theorem strs_eqv (xs : List Str) : PyData.eqv (.list (xs.map .str)) (.list (xs.map .str)) = true := by
  have a : PyData.eqvAll (xs.map .str) (xs.map .str) = true := by
    induction xs with
    | nil => simp [PyData.eqvAll]
    | cons x xs ih => simp [PyData.eqvAll, PyData.eqv, ih]
  simp [PyData.eqv, a]
theorem CalK.mono {P : Program} {w : World} {K : PySem.W.Frag} {mg : Str → Option Value} {base : Heap} {CB : Addr} {k k' : Nat} {x kw : Str} {n : Nat} {F : DSpec} (c : CalK P w K mg base CB k x n kw F) (h : k ≤ k') : CalK P w K mg base CB k' x n kw F := by
  obtain ⟨f, fd, ps, h1, h2, h3, h4⟩ := c.ex
  exact ⟨f, fd, ps, h1.mono h, h2, h3, h4⟩
end Fw
namespace K06
open PySem PySem.Spec PyProof.Rows L2 Fw
def top (i : Nat) : Stmt := PySem.Challenge.pw_watchedbeach_k06_whole_lamps_of_shores.main.body.getD i (.Pass ⟨0, 0, 0, 0⟩)
abbrev s_expect : Stmt := top 3
/-! slots: 0 is_right, 1 name -/
theorem sc_expect : FnScope ["is_right", "name"] ["is_right", "name"] (defScope s_expect) := ⟨rfl, rfl, rfl, by decide +kernel, rfl, by decide +kernel, by decide +kernel⟩
abbrev s_is_count : Stmt := top 4
/-! slots: 0 value, 1 low, 2 high -/
theorem sc_is_count : FnScope ["value", "low", "high"] ["value", "low", "high"] (defScope s_is_count) := ⟨rfl, rfl, rfl, by decide +kernel, rfl, by decide +kernel, by decide +kernel⟩
abbrev s_is_list : Stmt := top 5
/-! slots: 0 value, 1 low, 2 high -/
theorem sc_is_list : FnScope ["value", "low", "high"] ["value", "low", "high"] (defScope s_is_list) := ⟨rfl, rfl, rfl, by decide +kernel, rfl, by decide +kernel, by decide +kernel⟩
abbrev s_shared : Stmt := top 6
/-! slots: 0 one, 1 other -/
theorem sc_shared : FnScope ["one", "other"] ["one", "other"] (defScope s_shared) := ⟨rfl, rfl, rfl, by decide +kernel, rfl, by decide +kernel, by decide +kernel⟩
abbrev s_are_lamps : Stmt := top 11
/-! slots: 0 value, 1 own -/
theorem sc_are_lamps : FnScope ["value", "own"] ["value"] (defScope s_are_lamps) := ⟨rfl, rfl, rfl, by decide +kernel, rfl, by decide +kernel, by decide +kernel⟩
abbrev s_cycle : Stmt := top 12
/-! slots: 0 lamps, 1 found, 2 period, 3 first -/
theorem sc_cycle : FnScope ["lamps", "found", "period", "first"] ["lamps"] (defScope s_cycle) := ⟨rfl, rfl, rfl, by decide +kernel, rfl, by decide +kernel, by decide +kernel⟩
abbrev s_shining : Stmt := top 13
/-! slots: 0 lamps, 1 hour, 2 at, 3 own -/
theorem sc_shining : FnScope ["lamps", "hour", "at", "own"] ["lamps", "hour"] (defScope s_shining) := ⟨rfl, rfl, rfl, by decide +kernel, rfl, by decide +kernel, by decide +kernel⟩
abbrev s_together : Stmt := top 14
/-! slots: 0 lamps, 1 period, 2 hour, 3 own, 4 first, 5 turns, 6 turn -/
theorem sc_together : FnScope ["lamps", "period", "hour", "own", "first", "turns", "turn"] ["lamps"] (defScope s_together) := ⟨rfl, rfl, rfl, by decide +kernel, rfl, by decide +kernel, by decide +kernel⟩
abbrev s_clash : Stmt := top 15
/-! slots: 0 lamps, 1 one, 2 other -/
theorem sc_clash : FnScope ["lamps", "one", "other"] ["lamps"] (defScope s_clash) := ⟨rfl, rfl, rfl, by decide +kernel, rfl, by decide +kernel, by decide +kernel⟩
abbrev s_is_clash_of : Stmt := top 16
/-! slots: 0 one, 1 other -/
theorem sc_is_clash_of : FnScope ["one", "other"] ["one", "other"] (defScope s_is_clash_of) := ⟨rfl, rfl, rfl, by decide +kernel, rfl, by decide +kernel, by decide +kernel⟩
abbrev s_is_clash : Stmt := top 17
/-! slots: 0 lamps, 1 value, 2 own -/
theorem sc_is_clash : FnScope ["lamps", "value", "own"] ["lamps", "value"] (defScope s_is_clash) := ⟨rfl, rfl, rfl, by decide +kernel, rfl, by decide +kernel, by decide +kernel⟩
abbrev s_lit_row : Stmt := top 18
/-! slots: 0 lamps, 1 period, 2 first, 3 hour -/
theorem sc_lit_row : FnScope ["lamps", "period", "first", "hour"] ["lamps"] (defScope s_lit_row) := ⟨rfl, rfl, rfl, by decide +kernel, rfl, by decide +kernel, by decide +kernel⟩
abbrev s_dark : Stmt := top 19
/-! slots: 0 lamps, 1 row, 2 many, 3 best, 4 here, 5 hour -/
theorem sc_dark : FnScope ["lamps", "row", "many", "best", "here", "hour"] ["lamps"] (defScope s_dark) := ⟨rfl, rfl, rfl, by decide +kernel, rfl, by decide +kernel, by decide +kernel⟩
abbrev s_next_lit : Stmt := top 20
/-! slots: 0 lamps, 1 hour, 2 period, 3 first -/
theorem sc_next_lit : FnScope ["lamps", "hour", "period", "first"] ["lamps", "hour"] (defScope s_next_lit) := ⟨rfl, rfl, rfl, by decide +kernel, rfl, by decide +kernel, by decide +kernel⟩
abbrev s_lit_hours : Stmt := top 21
/-! slots: 0 lamps, 1 until, 2 row, 3 turns, 4 rest, 5 own -/
theorem sc_lit_hours : FnScope ["lamps", "until", "row", "turns", "rest", "own"] ["lamps", "until"] (defScope s_lit_hours) := ⟨rfl, rfl, rfl, by decide +kernel, rfl, by decide +kernel, by decide +kernel⟩
abbrev s_lit_at : Stmt := top 22
/-! slots: 0 lamps, 1 number, 2 hours, 3 hour, 4 own -/
theorem sc_lit_at : FnScope ["lamps", "number", "hours", "hour", "own"] ["lamps", "number"] (defScope s_lit_at) := ⟨rfl, rfl, rfl, by decide +kernel, rfl, by decide +kernel, by decide +kernel⟩
abbrev s_law_taken : Stmt := top 24
/-! slots: 0 row, 1 many, 2 found, 3 cell -/
theorem sc_law_taken : FnScope ["row", "many", "found", "cell"] ["row", "many"] (defScope s_law_taken) := ⟨rfl, rfl, rfl, by decide +kernel, rfl, by decide +kernel, by decide +kernel⟩
abbrev s_law_pick : Stmt := top 25
/-! slots: 0 row, 1 some -/
theorem sc_law_pick : FnScope ["row", "some"] ["row", "some"] (defScope s_law_pick) := ⟨rfl, rfl, rfl, by decide +kernel, rfl, by decide +kernel, by decide +kernel⟩
abbrev s_law_refused : Stmt := top 26
/-! slots: 0 call, 1 e -/
theorem sc_law_refused : FnScope ["call", "e"] ["call"] (defScope s_law_refused) := ⟨rfl, rfl, rfl, by decide +kernel, rfl, by decide +kernel, by decide +kernel⟩
abbrev s_law_alike : Stmt := top 27
/-! slots: 0 found, 1 due, 2 at -/
theorem sc_law_alike : FnScope ["found", "due", "at"] ["found", "due"] (defScope s_law_alike) := ⟨rfl, rfl, rfl, by decide +kernel, rfl, by decide +kernel, by decide +kernel⟩
abbrev s_law_lamps : Stmt := top 28
/-! slots: 0 row, 1 found, 2 periods, 3 turn, 4 period -/
theorem sc_law_lamps : FnScope ["row", "found", "periods", "turn", "period"] ["row"] (defScope s_law_lamps) := ⟨rfl, rfl, rfl, by decide +kernel, rfl, by decide +kernel, by decide +kernel⟩
abbrev s_law_cycle : Stmt := top 29
/-! slots: 0 lamps, 1 found, 2 period, 3 first -/
theorem sc_law_cycle : FnScope ["lamps", "found", "period", "first"] ["lamps"] (defScope s_law_cycle) := ⟨rfl, rfl, rfl, by decide +kernel, rfl, by decide +kernel, by decide +kernel⟩
abbrev s_law_shines : Stmt := top 30
/-! slots: 0 lamps, 1 hour, 2 at -/
theorem sc_law_shines : FnScope ["lamps", "hour", "at"] ["lamps", "hour"] (defScope s_law_shines) := ⟨rfl, rfl, rfl, by decide +kernel, rfl, by decide +kernel, by decide +kernel⟩
abbrev s_law_dark : Stmt := top 31
/-! slots: 0 lit, 1 many, 2 best, 3 hour, 4 size -/
theorem sc_law_dark : FnScope ["lit", "many", "best", "hour", "size"] ["lit", "many"] (defScope s_law_dark) := ⟨rfl, rfl, rfl, by decide +kernel, rfl, by decide +kernel, by decide +kernel⟩
abbrev s_law_case : Stmt := top 32
/-! slots: 0 row, 1 lamps, 2 many, 3 shines, 4 hour, 5 lit, 6 own, 7 every, 8 whole, 9 at, 10 pairs, 11 one, 12 two, 13 bad, 14 pair, 15 turn, 16 later, 17 wrong, 18 value, 19 odd, 20 none, 21 told -/
theorem sc_law_case : FnScope ["row", "lamps", "many", "shines", "hour", "lit", "own", "every", "whole", "at", "pairs", "one", "two", "bad", "pair", "turn", "later", "wrong", "value", "odd", "none", "told"] ["row"] (defScope s_law_case) := ⟨rfl, rfl, rfl, by decide +kernel, rfl, by decide +kernel, by decide +kernel⟩
abbrev s_law : Stmt := top 33
/-! slots: 0 script, 1 row, 2 turn -/
theorem sc_law : FnScope ["script", "row", "turn"] ["script"] (defScope s_law) := ⟨rfl, rfl, rfl, by decide +kernel, rfl, by decide +kernel, by decide +kernel⟩
/-- the names of the module -/
structure Nm (mg : Str → Option Value) : Prop where
  n_ValueError : mg "ValueError" = none
  n_all : mg "all" = none
  n_any : mg "any" = none
  n_bool : mg "bool" = none
  n_enumerate : mg "enumerate" = none
  n_int : mg "int" = none
  n_isinstance : mg "isinstance" = none
  n_len : mg "len" = none
  n_min : mg "min" = none
  n_range : mg "range" = none
  n_str : mg "str" = none
  n_sum : mg "sum" = none
  n_tuple : mg "tuple" = none
  i_MOST_LAMPS : ∃ t, mg "MOST_LAMPS" = some (.int 5 t)
  i_MOST_PERIOD : ∃ t, mg "MOST_PERIOD" = some (.int 12 t)
  i_MOST_HOUR : ∃ t, mg "MOST_HOUR" = some (.int 1000000 t)
abbrev FnP (K : PySem.W.Frag) (x : Str) (st : Stmt) (f : Addr) (fd : FuncData) : Prop := FunD K x x (defArgs st) (defBody st) (defScope st) [] [] f fd
end K06
namespace K06
open PySem PySem.Spec PyProof.Rows L2 Fw
section
variable {P : Program} {w : World} {K : PySem.W.Frag} {mg : Str → Option Value} {base : Heap} {CB fI : Addr} {f : Addr} {fd fdI : FuncData}
theorem ok_expect (T : BadOk K mg CB fI) (F1 : FnOk P w K mg base (L2.CX P w) 1 fI fdI ["self", "name"] (spInit CB)) (hb : L2.Binds K fdI ["self", "name"] []) (Fd : FnP K "expect" s_expect f fd) : FnOk P w K mg base (L2.CX P w) 3 f fd ["is_right", "name"] (spP K CB 2 F_expect) :=
  def_ok Fd sc_expect rfl fun cdv A outer s H0 O0 E ds Qd Qe hl hF B => by
    obtain ⟨b, x, rfl, h1, h2⟩ := hF
    refine ws_one (w1_if (gt_not (gt_val (ge_var 0))) (fun hb' => ws_one (w1_raise (k := 0) rfl B T F1 hb (ge_var 1) (B.exc x (h2 (by simpa using hb'))))) fun hb' => ws_nil (h1 (by simpa using hb')))
theorem ok_is_count (N : Nm mg) (Fd : FnP K "is_count" s_is_count f fd) : FnOk P w K mg base (L2.CX P w) 1 f fd ["value", "low", "high"] (spP K CB 3 F_is_count) :=
  def_ok Fd sc_is_count rfl fun cdv A outer s H0 O0 E ds Qd Qe hl hF B => by
    obtain ⟨v, lo, hi, rfl, q⟩ := hF
    refine ws_one (w1_ret (d := .bool (isIntD v && (!isBoolD v && (isCountD v lo hi)))) (ge_and (ge_isInt N.n_isinstance N.n_int (gr_ge (ge_var 0))) fun h1 => ge_and (ge_not (ge_isBool N.n_isinstance N.n_bool (gr_ge (ge_var 0)))) fun h2 => ge_one ?_) ?_)
    · cases v <;> simp [isIntD, isBoolD] at h1 h2
      exact ge_chainI op_le op_le rfl (ge_var 1) (ge_var 0) (ge_var 2)
    · have e : (isIntD v && (!isBoolD v && isCountD v lo hi)) = isCountD v lo hi := by cases v <;> simp [isIntD, isBoolD, isCountD]
      rw [e]
      exact q
theorem ok_is_list (N : Nm mg) (Fd : FnP K "is_list" s_is_list f fd) : FnOk P w K mg base (L2.CX P w) 1 f fd ["value", "low", "high"] (spP K CB 3 F_is_list) :=
  def_ok Fd sc_is_list rfl fun cdv A outer s H0 O0 E ds Qd Qe hl hF B => by
    obtain ⟨v, lo, hi, rfl, q⟩ := hF
    refine ws_one (w1_ret (d := .bool (isTupD v && isListD v lo hi)) (ge_and (ge_isTup N.n_isinstance N.n_tuple (gr_ge (ge_var 0))) fun h1 => ge_one ?_) ?_)
    · cases v <;> simp [isTupD] at h1
      exact ge_chainI op_le op_le rfl (ge_var 1) (ge_lenT N.n_len (gr_ge (ge_var 0))) (ge_var 2)
    · have e : (isTupD v && isListD v lo hi) = isListD v lo hi := by cases v <;> simp [isTupD, isListD]
      rw [e]
      exact q
end
/-! ## the mathematics of the mirrors -/
def encP (p : Int × Int) : PyData := .tuple [.int p.1, .int p.2]
def encL (l : List (Int × Int)) : PyData := .tuple (l.map encP)
def OkL (l : List (Int × Int)) : Prop := 1 ≤ l.length ∧ l.length ≤ 5 ∧ ∀ p ∈ l, 1 ≤ p.1 ∧ p.1 ≤ 12 ∧ 0 ≤ p.2 ∧ p.2 < p.1
def lastOk (a b : PyData) : Bool := match a with
  | .int i => isCountD b 0 (i - 1)
  | _ => false
def pairOk : PyData → Bool
  | .tuple [a, b] => isCountD a 1 12 && lastOk a b
  | _ => false
def areLampsD (v : PyData) : Bool := match v with
  | .tuple ds => isListD v 1 5 && ds.all (fun o => isListD o 2 2) && ds.all pairOk
  | _ => false
theorem areLamps_iff {v : PyData} : areLampsD v = true ↔ ∃ l, v = encL l ∧ OkL l := by
  constructor
  · intro h
    cases v with
    | tuple ds =>
      simp only [areLampsD, isListD, Bool.and_eq_true, decide_eq_true_eq] at h
      obtain ⟨⟨⟨h1, h2⟩, _⟩, h3⟩ := h
      have key : ∀ ds : List PyData, ds.all pairOk = true → ∃ l : List (Int × Int), ds = l.map encP ∧ ∀ p ∈ l, 1 ≤ p.1 ∧ p.1 ≤ 12 ∧ 0 ≤ p.2 ∧ p.2 < p.1 := by
        intro ds
        induction ds with
        | nil => intro _; exact ⟨[], rfl, fun p hp => by cases hp⟩
        | cons d ds ih =>
          intro h
          rw [List.all_cons, Bool.and_eq_true] at h
          obtain ⟨l, e, hl⟩ := ih h.2
          have hd : ∃ p : Int × Int, d = encP p ∧ 1 ≤ p.1 ∧ p.1 ≤ 12 ∧ 0 ≤ p.2 ∧ p.2 < p.1 := by
            have h1 := h.1
            unfold pairOk at h1
            split at h1
            · rename_i a b
              rw [Bool.and_eq_true] at h1
              obtain ⟨ha, hb⟩ := h1
              cases a with
              | int i =>
                cases b with
                | int j =>
                  simp only [isCountD, lastOk, Bool.and_eq_true, decide_eq_true_eq] at ha hb
                  exact ⟨(i, j), rfl, ha.1, ha.2, hb.1, by show j < i; omega⟩
                | _ => simp [isCountD, lastOk] at hb
              | _ => simp [isCountD] at ha
            · cases h1
          obtain ⟨p, e2, hp⟩ := hd
          refine ⟨p :: l, by rw [e, e2]; rfl, fun q hq => ?_⟩
          rcases List.mem_cons.mp hq with z | z
          · rw [z]; exact hp
          · exact hl q z
      obtain ⟨l, e, hl⟩ := key ds h3
      refine ⟨l, by rw [e]; rfl, ?_, ?_, hl⟩
      · rw [e, List.length_map] at h1; omega
      · rw [e, List.length_map] at h2; omega
    | _ => cases h
  · rintro ⟨l, rfl, h1, h2, h3⟩
    simp only [areLampsD, encL, isListD, Bool.and_eq_true, decide_eq_true_eq, List.length_map, List.all_map, List.all_eq_true]
    refine ⟨⟨⟨by omega, by omega⟩, fun p _ => by simp [encP, isListD]⟩, fun p hp => ?_⟩
    obtain ⟨a, b, c, d⟩ := h3 p hp
    simp only [Function.comp, encP, pairOk, lastOk, isCountD, Bool.and_eq_true, decide_eq_true_eq]
    omega
def gcdI (a b : Int) : Int := (Nat.gcd a.toNat b.toNat : Nat)
theorem gcdI_step {a b : Int} (ha : 0 ≤ a) (hb : 0 < b) : gcdI a b = gcdI b (a % b) := by
  unfold gcdI
  have e : (a % b).toNat = a.toNat % b.toNat := by
    have := Int.toNat_emod ha (Int.le_of_lt hb)
    exact this
  rw [e, Nat.gcd_comm a.toNat, Nat.gcd_rec b.toNat, Nat.gcd_comm]
theorem gcdI_zero {a : Int} (ha : 0 ≤ a) : gcdI a 0 = a := by
  unfold gcdI
  simp
  omega
/-- the mirror of cycle -/
def lcmS (a : Int) (p : Int × Int) : Int := a / gcdI a p.1 * p.1
def cyc (l : List (Int × Int)) : Int := l.foldl lcmS 1
section
variable {P : Program} {w : World} {K : PySem.W.Frag} {mg : Str → Option Value} {base : Heap} {CB fI : Addr} {f : Addr} {fd fdI : FuncData} {k : Nat}
def F_shared : DSpec := fun ds Qd _ => ∃ a b, ds = [.int a, .int b] ∧ 0 ≤ a ∧ 0 ≤ b ∧ Qd (.int (gcdI a b))
theorem ok_shared (N : Nm mg) (Fd : FnP K "shared" s_shared f fd) : FnOk P w K mg base (L2.CX P w) 1 f fd ["one", "other"] (spP K CB 2 F_shared) :=
  def_ok Fd sc_shared rfl fun cdv A outer s H0 O0 E ds Qd Qe hl hF B => by
    obtain ⟨a0, b0, rfl, ha0, hb0, q⟩ := hF
    refine ws_cons (w1_while (fun m Γ => ∃ a b, Γ = [.dat (.int a), .dat (.int b)] ∧ 0 ≤ a ∧ 0 ≤ b ∧ m = b.toNat ∧ gcdI a b = gcdI a0 b0) b0.toNat B.own ⟨a0, b0, rfl, ha0, hb0, rfl, rfl⟩ ?_)
    rintro m Γ ⟨a, b, rfl, ha, hb, rfl, e⟩
    refine ⟨_, gt_gt (ge_var 1) ge_int, fun h => ?_, fun h => ?_⟩
    · have hb' : 0 < b := of_decide_eq_true h
      refine ws_one (w1_par 0 1 (gp_d (ge_var 1) (gp_d (ge_mod (ge_var 0) (ge_var 1) hb') gp_nil)) ?_ rfl sc_shared.nd)
      have h1 := Int.emod_nonneg a (Int.ne_of_gt hb')
      have h2 := Int.emod_lt_of_pos a hb'
      exact ⟨(a % b).toNat, by omega, b, a % b, rfl, by omega, h1, rfl, by rw [← gcdI_step ha hb']; exact e⟩
    · have hb' : ¬ 0 < b := of_decide_eq_false h
      have : b = 0 := by omega
      subst this
      refine ws_one (w1_ret (ge_var 0) ?_)
      rw [gcdI_zero ha] at e
      rw [e]
      exact q
def F_are_lamps : DSpec := fun ds Qd _ => ∃ v, ds = [v] ∧ Qd (.bool (areLampsD v))
theorem ok_are_lamps (N : Nm mg) (cl : Cal P w K mg base CB 1 "is_list" 3 F_is_list) (cc : Cal P w K mg base CB 1 "is_count" 3 F_is_count) (Fd : FnP K "are_lamps" s_are_lamps f fd) : FnOk P w K mg base (L2.CX P w) 2 f fd ["value"] (spP K CB 1 F_are_lamps) :=
  def_ok Fd sc_are_lamps rfl fun cdv A outer s H0 O0 E ds Qd Qe hl hF B => by
    obtain ⟨v, rfl, q⟩ := hF
    refine ws_cons (w1_if (z := !(isListD v 1 5) || !((tupOf v).all (fun o => isListD o 2 2))) (gt_w (gw_or (gt_not (gt_val (ge_gn (gn_call cl B.room (ga_cons (ge_var 0) (ga_cons ge_int (ga_cons (ge_glI N.i_MOST_LAMPS) ga_nil))) rfl ⟨_, _, _, rfl, rfl⟩)))) fun h => gw_or1 (gt_not (gt_val ?_)))) (fun h => ?_) fun h => ws_nil ?_)
    · cases v <;> simp [isListD] at h
      rename_i ds
      exact ge_allB N.n_all rfl (gs_gl (gl_mapB [("own", 1)] rfl sc_are_lamps.nd (gi_tupD (ge_var 0)) (by simp only [tupOf]; omega) (fun x hx s H Cc cl' fp => gg_name 1 sc_are_lamps.nd) (fun x hx s H Cc cl' fp => ge_gn (gn_call cl B.room (ga_cons (ge_var 1) (ga_cons ge_int (ga_cons ge_int ga_nil))) rfl ⟨_, _, _, rfl, rfl⟩))))
    · refine ws_one (w1_ret (d := .bool false) ge_bl ?_)
      have e : areLampsD v = false := by
        cases v with
        | tuple ds =>
          simp only [areLampsD, tupOf, Bool.or_eq_true, Bool.not_eq_true'] at h ⊢
          rcases h with h | h <;> rw [h] <;> simp
        | _ => rfl
      rw [← e]
      exact q
    · cases v <;> simp [isListD] at h
      rename_i ds
      obtain ⟨⟨h1, h2⟩, h3⟩ := h
      have h3' : ∀ x ∈ ds, isListD x 2 2 = true := h3
      refine ws_one (w1_ret (ge_allB (g := pairOk) N.n_all rfl (gs_gl (gl_mapB [("own", 1)] rfl sc_are_lamps.nd (gi_tupD (ge_var 0)) (by omega) (fun x hx s H Cc cl' fp => gg_name 1 sc_are_lamps.nd) (fun x hx s H Cc cl' fp => ?_)))) ?_)
      · obtain ⟨a, b, rfl⟩ : ∃ a b, x = .tuple [a, b] := by
          have := h3' x hx
          cases x <;> simp [isListD] at this
          rename_i es
          match es, this with
          | [a, b], _ => exact ⟨a, b, rfl⟩
          | [], h => simp at h
          | [_], h => simp at h
          | _ :: _ :: _ :: _, h => simp at h; omega
        show GE _ _ _ _ (.bool (isCountD a 1 12 && lastOk a b))
        refine ge_and (ge_gn (gn_call cc B.room (ga_cons (ge_ixT (ge_var 1) ge_int (atI_nat (j := 0) rfl)) (ga_cons ge_int (ga_cons (ge_glI N.i_MOST_PERIOD) ga_nil))) rfl ⟨_, _, _, rfl, rfl⟩)) fun h => ge_one ?_
        cases a <;> simp [isCountD] at h
        exact ge_gn (gn_call cc B.room (ga_cons (ge_ixT (ge_var 1) ge_int (atI_nat (j := 1) rfl)) (ga_cons ge_int (ga_cons (ge_sub (ge_ixT (ge_var 1) ge_int (atI_nat (j := 0) rfl)) ge_int) ga_nil))) rfl ⟨_, _, _, rfl, rfl⟩)
      · have e : areLampsD (.tuple ds) = ds.all pairOk := by
          have e1 : isListD (.tuple ds) 1 5 = true := by simp [isListD, h1, h2]
          have e2 : (ds.all fun o => isListD o 2 2) = true := List.all_eq_true.mpr h3'
          simp only [areLampsD, e1, e2, Bool.true_and]
        rw [← e]
        exact q
end

end K06
namespace K06
open PySem PySem.Spec PyProof.Rows L2 Fw
/-! ## lamps: the arithmetic -/
theorem gcdI_dvdL (a b : Int) (ha : 0 ≤ a) : gcdI a b ∣ a := by
  unfold gcdI
  have := Nat.gcd_dvd_left a.toNat b.toNat
  have h := Int.natCast_dvd_natCast.mpr this
  rwa [Int.toNat_of_nonneg ha] at h
theorem gcdI_dvdR (a b : Int) (hb : 0 ≤ b) : gcdI a b ∣ b := by
  unfold gcdI
  have := Nat.gcd_dvd_right a.toNat b.toNat
  have h := Int.natCast_dvd_natCast.mpr this
  rwa [Int.toNat_of_nonneg hb] at h
theorem gcdI_pos (a b : Int) (ha : 0 < a) : 0 < gcdI a b := by
  unfold gcdI
  have := Nat.gcd_pos_of_pos_left b.toNat (show 0 < a.toNat by omega)
  omega
theorem lcmS_nat {a : Int} {p : Int × Int} (ha : 0 < a) (hp : 0 < p.1) : lcmS a p = (Nat.lcm a.toNat p.1.toNat : Nat) := by
  obtain ⟨x, hx⟩ : ∃ x : Nat, a = x := ⟨a.toNat, by omega⟩
  obtain ⟨y, hy⟩ : ∃ y : Nat, p.1 = y := ⟨p.1.toNat, by omega⟩
  unfold lcmS gcdI Nat.lcm
  rw [hx, hy]
  simp only [Int.toNat_natCast]
  have h := Nat.gcd_dvd_left x y
  have : x * y / Nat.gcd x y = x / Nat.gcd x y * y := by
    rw [Nat.mul_comm x y, Nat.mul_div_assoc y h, Nat.mul_comm]
  rw [this]
  push_cast
  rfl
theorem dvd_nat {a b : Int} (ha : 0 ≤ a) (hb : 0 ≤ b) : a ∣ b ↔ a.toNat ∣ b.toNat := by
  obtain ⟨x, rfl⟩ : ∃ x : Nat, a = x := ⟨a.toNat, by omega⟩
  obtain ⟨y, rfl⟩ : ∃ y : Nat, b = y := ⟨b.toNat, by omega⟩
  simp only [Int.toNat_natCast]
  exact Int.natCast_dvd_natCast
theorem lcmS_pos {a : Int} {p : Int × Int} (ha : 0 < a) (hp : 0 < p.1) : 0 < lcmS a p := by
  rw [lcmS_nat ha hp]
  have := Nat.lcm_pos (show 0 < a.toNat by omega) (show 0 < p.1.toNat by omega)
  omega
theorem lcmS_dvdL {a : Int} {p : Int × Int} (ha : 0 < a) (hp : 0 < p.1) : a ∣ lcmS a p := by
  rw [lcmS_nat ha hp, dvd_nat (by omega) (by omega)]
  exact Nat.dvd_lcm_left _ _
theorem lcmS_dvdR {a : Int} {p : Int × Int} (ha : 0 < a) (hp : 0 < p.1) : p.1 ∣ lcmS a p := by
  rw [lcmS_nat ha hp, dvd_nat (by omega) (by omega)]
  exact Nat.dvd_lcm_right _ _
theorem lcmS_dvd {a t : Int} {p : Int × Int} (ha : 0 < a) (hp : 0 < p.1) (h1 : a ∣ t) (h2 : p.1 ∣ t) : lcmS a p ∣ t := by
  rw [lcmS_nat ha hp]
  have e1 := Int.natAbs_dvd_natAbs.mpr h1
  have e2 := Int.natAbs_dvd_natAbs.mpr h2
  rw [← Int.natAbs_dvd_natAbs, Int.natAbs_natCast]
  have q1 : a.toNat = a.natAbs := by omega
  have q2 : p.1.toNat = p.1.natAbs := by omega
  rw [q1, q2]
  exact Nat.lcm_dvd e1 e2
/-- what a cycle is -/
theorem fold_spec (l : List (Int × Int)) : ∀ a : Int, 0 < a → (∀ p ∈ l, 0 < p.1) → 0 < l.foldl lcmS a ∧ a ∣ l.foldl lcmS a ∧ (∀ p ∈ l, p.1 ∣ l.foldl lcmS a) ∧ ∀ t, a ∣ t → (∀ p ∈ l, p.1 ∣ t) → l.foldl lcmS a ∣ t := by
  induction l with
  | nil =>
    intro a ha _
    refine ⟨ha, Int.dvd_refl a, ?_, fun t h _ => h⟩
    intro p hp
    cases hp
  | cons q l ih =>
    intro a ha hl
    have hq := hl q List.mem_cons_self
    obtain ⟨h1, h2, h3, h4⟩ := ih (lcmS a q) (lcmS_pos ha hq) fun p hp => hl p (List.mem_cons_of_mem _ hp)
    refine ⟨h1, Int.dvd_trans (lcmS_dvdL ha hq) h2, fun p hp => ?_, fun t e1 e2 => h4 t (lcmS_dvd ha hq e1 (e2 q List.mem_cons_self)) fun p hp => e2 p (List.mem_cons_of_mem _ hp)⟩
    rcases List.mem_cons.mp hp with z | z
    · rw [z]; exact Int.dvd_trans (lcmS_dvdR ha hq) h2
    · exact h3 p z
theorem dvd_12 {a : Int} (h1 : 1 ≤ a) (h2 : a ≤ 12) : a ∣ 27720 := by
  have : a = 1 ∨ a = 2 ∨ a = 3 ∨ a = 4 ∨ a = 5 ∨ a = 6 ∨ a = 7 ∨ a = 8 ∨ a = 9 ∨ a = 10 ∨ a = 11 ∨ a = 12 := by omega
  rcases this with h | h | h | h | h | h | h | h | h | h | h | h <;> (subst h; decide)
def OkP (p : Int × Int) : Prop := 1 ≤ p.1 ∧ p.1 ≤ 12 ∧ 0 ≤ p.2 ∧ p.2 < p.1
theorem cyc_spec {l : List (Int × Int)} (h : ∀ p ∈ l, OkP p) : 0 < cyc l ∧ cyc l ≤ 27720 ∧ (∀ p ∈ l, p.1 ∣ cyc l) ∧ ∀ t, (∀ p ∈ l, p.1 ∣ t) → cyc l ∣ t := by
  obtain ⟨h1, _, h3, h4⟩ := fold_spec l 1 (by decide) fun p hp => by have := (h p hp).1; omega
  refine ⟨h1, Int.le_of_dvd (by decide) (h4 27720 (Int.one_dvd _) fun p hp => dvd_12 (h p hp).1 (h p hp).2.1), h3, fun t ht => h4 t (Int.one_dvd _) ht⟩
def litP (h : Int) (p : Int × Int) : Bool := decide (h % p.1 = p.2)
def litAt (l : List (Int × Int)) (h : Int) : Bool := l.any (litP h)
def allLit (l : List (Int × Int)) (h : Int) : Bool := l.all (litP h)
theorem emod_per {h t m p : Int} (d : p ∣ m) (e : m ∣ h - t) : h % p = t % p := (Int.emod_eq_emod_iff_emod_sub_eq_zero).mpr (Int.emod_eq_zero_of_dvd (Int.dvd_trans d e))
theorem litP_per {l : List (Int × Int)} (hl : ∀ p ∈ l, OkP p) {h t : Int} (e : cyc l ∣ h - t) {p : Int × Int} (hp : p ∈ l) : litP h p = litP t p := by
  unfold litP
  rw [emod_per ((cyc_spec hl).2.2.1 p hp) e]
theorem any_congr' {α : Type} {f g : α → Bool} : ∀ {l : List α}, (∀ x ∈ l, f x = g x) → l.any f = l.any g
  | [], _ => rfl
  | x :: l, h => by
    rw [List.any_cons, List.any_cons, h x List.mem_cons_self, any_congr' fun y hy => h y (List.mem_cons_of_mem _ hy)]
theorem litAt_per {l : List (Int × Int)} (hl : ∀ p ∈ l, OkP p) {h t : Int} (e : cyc l ∣ h - t) : litAt l h = litAt l t := any_congr' fun p hp => litP_per hl e hp
theorem litAt_mod {l : List (Int × Int)} (hl : ∀ p ∈ l, OkP p) (h : Int) : litAt l (h % cyc l) = litAt l h := litAt_per hl ⟨-(h / cyc l), by have := Int.emod_def h (cyc l); rw [this]; have := Int.mul_neg (cyc l) (h / cyc l); omega⟩
/-- an hour that is lit, in every cycle -/
theorem lit_some {l : List (Int × Int)} (hl : OkL l) : ∃ h, 0 ≤ h ∧ h < cyc l ∧ litAt l h = true := by
  obtain ⟨h1, _, h3⟩ := hl
  match l, h1, h3 with
  | p :: l, _, h3 =>
    obtain ⟨a, b, c, d⟩ := h3 p List.mem_cons_self
    obtain ⟨e1, e2, e3, e4⟩ := cyc_spec (l := p :: l) h3
    have := Int.le_of_dvd e1 (e3 p List.mem_cons_self)
    refine ⟨p.2, c, by omega, ?_⟩
    unfold litAt
    rw [List.any_cons]
    have : litP p.2 p = true := by
      unfold litP
      rw [Int.emod_eq_of_lt c d]
      exact decide_eq_true rfl
    rw [this]
    rfl
/-! ### runs -/
def IsRun (l : List (Int × Int)) (h t : Int) : Prop := 0 ≤ t ∧ (∀ u, 0 ≤ u → u < t → litAt l (h + u) = false) ∧ litAt l (h + t) = true
theorem isRun_uniq {l : List (Int × Int)} {h t t' : Int} (a : IsRun l h t) (b : IsRun l h t') : t = t' := by
  rcases Int.lt_trichotomy t t' with z | z | z
  · have := b.2.1 t a.1 z; rw [a.2.2] at this; cases this
  · exact z
  · have := a.2.1 t' b.1 z; rw [b.2.2] at this; cases this
/-- the longest run that starts in [q, m), the first of them -/
def DarkR (l : List (Int × Int)) (q m h s : Int) : Prop := q ≤ h ∧ h < m ∧ IsRun l h s ∧ ∀ h', q ≤ h' → h' < m → ∀ t, IsRun l h' t → t ≤ s ∧ (h' < h → t < s)
def NextR (l : List (Int × Int)) (h r : Int) : Prop := ∃ t, IsRun l h t ∧ r = h + t
/-! ### how many hours below n are lit -/
def cntN (l : List (Int × Int)) : Nat → Nat
  | 0 => 0
  | n + 1 => cntN l n + (if litAt l (n : Nat) = true then 1 else 0)
theorem cntN_filter (l : List (Int × Int)) : ∀ n : Nat, ((List.range n).filter fun i => litAt l ((i : Nat) : Int)).length = cntN l n
  | 0 => rfl
  | n + 1 => by
    rw [List.range_succ, List.filter_append, List.length_append, cntN_filter l n]
    show _ = cntN l n + (if litAt l (n : Nat) = true then 1 else 0)
    rw [List.filter_cons, List.filter_nil]
    cases litAt l ((n : Nat) : Int) <;> rfl
theorem cntN_add {l : List (Int × Int)} (hl : ∀ p ∈ l, OkP p) (m : Nat) (hm : (m : Int) = cyc l) (k : Nat) : ∀ n, cntN l (k * m + n) = k * cntN l m + cntN l n := by
  have step : ∀ (b : Nat), (∀ n, cntN l (b * m + n) = cntN l (b * m) + cntN l n) := by
    intro b n
    induction n with
    | zero => rfl
    | succ n ih =>
      rw [← Nat.add_assoc]
      show cntN l (b * m + n) + _ = _
      have e : litAt l ((b * m + n : Nat) : Int) = litAt l ((n : Nat) : Int) := litAt_per hl ⟨(b : Int), by rw [← hm]; push_cast; rw [Int.mul_comm (m : Int)]; omega⟩
      rw [ih, e]
      show _ = cntN l (b * m) + (cntN l n + _)
      omega
  have all : ∀ b : Nat, cntN l (b * m) = b * cntN l m := by
    intro b
    induction b with
    | zero => rw [Nat.zero_mul, Nat.zero_mul]; rfl
    | succ b ih => rw [Nat.succ_mul, step b m, ih, Nat.succ_mul]
  intro n
  rw [step k n, all k]
theorem cntN_mono (l : List (Int × Int)) {a b : Nat} (h : a ≤ b) : cntN l a ≤ cntN l b := by
  induction h with
  | refl => exact Nat.le_refl _
  | step _ ih => exact Nat.le_trans ih (Nat.le_add_right _ _)
/-- the hour with n lit hours before it -/
theorem nth_uniq {l : List (Int × Int)} {a b : Nat} (ha : litAt l (a : Nat) = true) (hb : litAt l (b : Nat) = true) (e : cntN l a = cntN l b) : a = b := by
  have key : ∀ a b : Nat, litAt l (a : Nat) = true → a < b → cntN l a < cntN l b := fun a b ha h => by
    have h1 := cntN_mono l (show a + 1 ≤ b by omega)
    have h2 : cntN l (a + 1) = cntN l a + 1 := by
      show cntN l a + _ = _
      rw [if_pos ha]
    omega
  rcases Nat.lt_trichotomy a b with z | z | z
  · have := key a b ha z; omega
  · exact z
  · have := key b a hb z; omega
/-! ### hours in common -/
theorem bezout (a b : Nat) : ∃ s t : Int, (a : Int) * s + b * t = (Nat.gcd a b : Nat) := by
  induction a, b using Nat.gcd.induction with
  | H0 n => exact ⟨0, 1, by simp⟩
  | H1 m n hm ih =>
    obtain ⟨s, t, h⟩ := ih
    refine ⟨t - (n / m : Nat) * s, s, ?_⟩
    rw [Nat.gcd_rec, ← h]
    have e := Nat.mod_add_div n m
    have e' : ((n % m : Nat) : Int) + m * ((n / m : Nat) : Int) = n := by
      rw [← Int.natCast_mul, ← Int.natCast_add, e]
    rw [← e']
    simp only [Int.mul_sub, Int.add_mul]
    rw [Int.mul_assoc]
    omega
theorem crt {a b x y : Int} (ha : 0 < a) (hb : 0 < b) (h : gcdI a b ∣ y - x) : ∃ t, 0 ≤ t ∧ t < b ∧ (x + t * a) % b = y % b := by
  obtain ⟨s, u, e⟩ := bezout a.toNat b.toNat
  obtain ⟨k, hk⟩ := h
  have e' : a * s + b * u = gcdI a b := by
    unfold gcdI
    rw [← e, Int.toNat_of_nonneg (by omega), Int.toNat_of_nonneg (by omega)]
  refine ⟨(s * k) % b, Int.emod_nonneg _ (by omega), Int.emod_lt_of_pos _ hb, ?_⟩
  have h1 : (x + (s * k) % b * a) % b = (x + s * k * a) % b := by
    rw [Int.add_emod, Int.mul_emod, Int.emod_emod, ← Int.mul_emod, ← Int.add_emod]
  rw [h1]
  have h2 : x + s * k * a = y - b * (u * k) := by
    have : y = x + (a * s + b * u) * k := by rw [e']; omega
    rw [this, Int.add_mul, Int.mul_assoc b u k, show s * k * a = a * s * k by rw [Int.mul_comm (s * k) a, Int.mul_assoc]]
    omega
  rw [h2]
  exact Int.sub_mul_emod_self_left y b (u * k)
/-- gcd and lcm -/
theorem dvd_parts {a b d : Nat} (hd : 0 < d) (h : d ∣ Nat.lcm a b) : d ∣ Nat.lcm (Nat.gcd a d) (Nat.gcd b d) := by
  have hu := Nat.gcd_pos_of_pos_right a hd
  have hv := Nat.gcd_pos_of_pos_right b hd
  have ca := Nat.coprime_div_gcd_div_gcd hu
  have cb := Nat.coprime_div_gcd_div_gcd hv
  have hL : Nat.lcm (Nat.gcd a d) (Nat.gcd b d) ∣ d := Nat.lcm_dvd (Nat.gcd_dvd_right a d) (Nat.gcd_dvd_right b d)
  obtain ⟨e, he⟩ := hL
  generalize hLL : Nat.lcm (Nat.gcd a d) (Nat.gcd b d) = L at he
  have uL : Nat.gcd a d ∣ L := by rw [← hLL]; exact Nat.dvd_lcm_left _ _
  have vL : Nat.gcd b d ∣ L := by rw [← hLL]; exact Nat.dvd_lcm_right _ _
  have Lp : 0 < L := by
    rcases Nat.eq_zero_or_pos L with z | z
    · rw [z, Nat.zero_mul] at he; omega
    · exact z
  have eu : e ∣ d / Nat.gcd a d := by
    obtain ⟨c, hc⟩ := uL
    refine ⟨c, Nat.div_eq_of_eq_mul_right hu (he.trans ?_)⟩
    rw [hc, Nat.mul_assoc, Nat.mul_comm c e]
  have ev : e ∣ d / Nat.gcd b d := by
    obtain ⟨c, hc⟩ := vL
    refine ⟨c, Nat.div_eq_of_eq_mul_right hv (he.trans ?_)⟩
    rw [hc, Nat.mul_assoc, Nat.mul_comm c e]
  have ca' : Nat.Coprime e (a / Nat.gcd a d) := (ca.symm).coprime_dvd_left eu
  have cb' : Nat.Coprime e (b / Nat.gcd b d) := (cb.symm).coprime_dvd_left ev
  have big : Nat.lcm a b ∣ L * ((a / Nat.gcd a d) * (b / Nat.gcd b d)) := by
    refine Nat.lcm_dvd ?_ ?_
    · have : a = Nat.gcd a d * (a / Nat.gcd a d) := (Nat.mul_div_cancel' (Nat.gcd_dvd_left a d)).symm
      rw [← Nat.mul_assoc]
      exact Nat.dvd_trans (by rw [← this]; exact Nat.dvd_refl a) (Nat.dvd_trans (Nat.mul_dvd_mul_right uL (a / Nat.gcd a d)) (Nat.dvd_mul_right _ _))
    · have : b = Nat.gcd b d * (b / Nat.gcd b d) := (Nat.mul_div_cancel' (Nat.gcd_dvd_left b d)).symm
      rw [Nat.mul_comm (a / Nat.gcd a d), ← Nat.mul_assoc]
      exact Nat.dvd_trans (by rw [← this]; exact Nat.dvd_refl b) (Nat.dvd_trans (Nat.mul_dvd_mul_right vL (b / Nat.gcd b d)) (Nat.dvd_mul_right _ _))
  have h2 : L * e ∣ L * ((a / Nat.gcd a d) * (b / Nat.gcd b d)) := by rw [← he]; exact Nat.dvd_trans h big
  have h3 : e ∣ (a / Nat.gcd a d) * (b / Nat.gcd b d) := Nat.dvd_of_mul_dvd_mul_left Lp h2
  have h4 : e = 1 := (Nat.Coprime.mul_right ca' cb').eq_one_of_dvd h3
  rw [he, h4, Nat.mul_one]
  exact Nat.dvd_refl L

theorem gcdI_fold {c z : Int} (hc : 0 < c) : ∀ (l : List (Int × Int)) (a : Int), 0 < a → (∀ p ∈ l, OkP p) → gcdI a c ∣ z → (∀ p ∈ l, gcdI p.1 c ∣ z) → gcdI (l.foldl lcmS a) c ∣ z := by
  intro l
  induction l with
  | nil => intro a _ _ h _; exact h
  | cons p l ih =>
    intro a ha hl h1 h2
    have hp : 0 < p.1 := by have := (hl p List.mem_cons_self).1; omega
    refine ih (lcmS a p) (lcmS_pos ha hp) (fun q hq => hl q (List.mem_cons_of_mem _ hq)) ?_ fun q hq => h2 q (List.mem_cons_of_mem _ hq)
    have h3 := h2 p List.mem_cons_self
    unfold gcdI at h1 h3 ⊢
    rw [lcmS_nat ha hp, Int.toNat_natCast]
    rw [← Int.natAbs_dvd_natAbs, Int.natAbs_natCast] at h1 h3 ⊢
    generalize hd : Nat.gcd (Nat.lcm a.toNat p.1.toNat) c.toNat = d
    have dp : 0 < d := by rw [← hd]; exact Nat.gcd_pos_of_pos_right _ (by omega)
    have d1 : d ∣ Nat.lcm a.toNat p.1.toNat := by rw [← hd]; exact Nat.gcd_dvd_left _ _
    have d2 : d ∣ c.toNat := by rw [← hd]; exact Nat.gcd_dvd_right _ _
    refine Nat.dvd_trans (dvd_parts dp d1) (Nat.lcm_dvd ?_ ?_)
    · exact Nat.dvd_trans (Nat.gcd_dvd_gcd_of_dvd_right _ d2) h1
    · exact Nat.dvd_trans (Nat.gcd_dvd_gcd_of_dvd_right _ d2) h3
def clashB (p q : Int × Int) : Bool := !decide ((p.2 - q.2) % gcdI p.1 q.1 = 0)
theorem clashB_false {p q : Int × Int} (hp : OkP p) : clashB p q = false ↔ gcdI p.1 q.1 ∣ p.2 - q.2 := by
  unfold clashB
  rw [Bool.not_eq_false', decide_eq_true_eq]
  exact ⟨Int.dvd_of_emod_eq_zero, Int.emod_eq_zero_of_dvd⟩
theorem litP_dvd {p : Int × Int} (hp : OkP p) {t : Int} : litP t p = true ↔ p.1 ∣ t - p.2 := by
  unfold litP
  rw [decide_eq_true_eq]
  have e : p.2 % p.1 = p.2 := Int.emod_eq_of_lt hp.2.2.1 hp.2.2.2
  constructor
  · intro h
    refine Int.dvd_of_emod_eq_zero ?_
    rw [← Int.emod_eq_emod_iff_emod_sub_eq_zero, h, e]
  · intro h
    have := Int.emod_eq_emod_iff_emod_sub_eq_zero.mpr (Int.emod_eq_zero_of_dvd h)
    rw [this, e]
theorem clash_iff {p q : Int × Int} (hp : OkP p) (hq : OkP q) : clashB p q = false ↔ ∃ t, 0 ≤ t ∧ litP t p = true ∧ litP t q = true := by
  rw [clashB_false hp]
  have p0 : 0 < p.1 := by have := hp.1; omega
  have q0 : 0 < q.1 := by have := hq.1; omega
  constructor
  · intro h
    obtain ⟨t, h1, h2, h3⟩ := crt p0 q0 (x := p.2) (y := q.2) (by rw [show q.2 - p.2 = -(p.2 - q.2) by omega]; exact Int.dvd_neg.mpr h)
    refine ⟨p.2 + t * p.1, ?_, ?_, ?_⟩
    · have := Int.mul_nonneg h1 (Int.le_of_lt p0)
      have := hp.2.2.1
      omega
    · rw [litP_dvd hp]
      exact ⟨t, by rw [Int.mul_comm t]; omega⟩
    · unfold litP
      rw [h3, Int.emod_eq_of_lt hq.2.2.1 hq.2.2.2]
      exact decide_eq_true rfl
  · rintro ⟨t, _, h1, h2⟩
    rw [litP_dvd hp] at h1
    rw [litP_dvd hq] at h2
    have e1 := Int.dvd_trans (gcdI_dvdL p.1 q.1 (Int.le_of_lt p0)) h1
    have e2 := Int.dvd_trans (gcdI_dvdR p.1 q.1 (Int.le_of_lt q0)) h2
    have := Int.dvd_sub e2 e1
    rwa [show t - q.2 - (t - p.2) = p.2 - q.2 by omega] at this
theorem allLit_mem {l : List (Int × Int)} {t : Int} (h : allLit l t = true) {p : Int × Int} (hp : p ∈ l) : litP t p = true := List.all_eq_true.mp h p hp
theorem cyc_app (l : List (Int × Int)) (q : Int × Int) : cyc (l ++ [q]) = lcmS (cyc l) q := by
  unfold cyc
  rw [List.foldl_append]
  rfl
/-- lamps of which no two clash shine together -/
theorem joint_rev : ∀ r : List (Int × Int), (∀ p ∈ r.reverse, OkP p) → r.reverse.Pairwise (fun p q => clashB p q = false) → ∃ t, 0 ≤ t ∧ allLit r.reverse t = true
  | [], _, _ => ⟨0, Int.le_refl 0, rfl⟩
  | q :: r, hl, hp => by
    rw [List.reverse_cons] at hl hp ⊢
    have hl' : ∀ p ∈ r.reverse, OkP p := fun p h => hl p (List.mem_append_left _ h)
    have hq : OkP q := hl q (List.mem_append_right _ (List.mem_cons_self))
    rw [List.pairwise_append] at hp
    obtain ⟨x, x0, hx⟩ := joint_rev r hl' hp.1
    have c0 := (cyc_spec hl').1
    have q0 : 0 < q.1 := by have := hq.1; omega
    have hg : gcdI (cyc r.reverse) q.1 ∣ q.2 - x := by
      refine gcdI_fold q0 r.reverse 1 (by decide) hl' ?_ fun p hp' => ?_
      · unfold gcdI
        rw [show (1 : Int).toNat = 1 from rfl, Nat.gcd_one_left]
        exact Int.one_dvd _
      · have h1 := (clashB_false (hl' p hp')).mp (hp.2.2 p hp' q (List.mem_cons_self))
        have h2 := (litP_dvd (hl' p hp')).mp (allLit_mem hx hp')
        have h3 := Int.dvd_trans (gcdI_dvdL p.1 q.1 (by have := (hl' p hp').1; omega)) h2
        have := Int.dvd_neg.mpr (Int.dvd_add h3 h1)
        rwa [show -(x - p.2 + (p.2 - q.2)) = q.2 - x by omega] at this
    obtain ⟨t, t0, t1, ht⟩ := crt c0 q0 hg
    refine ⟨x + t * cyc r.reverse, ?_, ?_⟩
    · have := Int.mul_nonneg t0 (Int.le_of_lt c0)
      omega
    · unfold allLit
      rw [List.all_append, Bool.and_eq_true]
      refine ⟨List.all_eq_true.mpr fun p hp' => ?_, ?_⟩
      · rw [litP_per hl' (t := x) ⟨t, by rw [Int.mul_comm t]; omega⟩ hp']
        exact allLit_mem hx hp'
      · rw [List.all_cons, List.all_nil, Bool.and_true]
        unfold litP
        rw [ht, Int.emod_eq_of_lt hq.2.2.1 hq.2.2.2]
        exact decide_eq_true rfl
theorem joint {l : List (Int × Int)} (hl : ∀ p ∈ l, OkP p) (hp : l.Pairwise (fun p q => clashB p q = false)) : ∃ t, 0 ≤ t ∧ allLit l t = true := by
  have := joint_rev l.reverse
  rw [List.reverse_reverse] at this
  exact this hl hp
/-! ### together -/
structure TogI (l : List (Int × Int)) (m x : Int) : Prop where
  mc : m = cyc l
  x0 : 0 ≤ x
  x1 : x < m
  lit : allLit l x = true
  un : ∀ t, 0 ≤ t → allLit l t = true → t % m = x
theorem togI_nil : TogI [] 1 0 := ⟨rfl, by decide, by decide, rfl, fun t _ _ => Int.emod_one t⟩
theorem tog_none {l1 l2 : List (Int × Int)} {q : Int × Int} {m x : Int} (I : TogI l1 m x) (m0 : 0 < m) (hq : OkP q) (h : ∀ u, 0 ≤ u → u < q.1 → (x + u * m) % q.1 ≠ q.2) (t : Int) (ht : 0 ≤ t) : allLit (l1 ++ q :: l2) t = false := by
  cases e : allLit (l1 ++ q :: l2) t with
  | false => rfl
  | true =>
    unfold allLit at e
    rw [List.all_append, List.all_cons, Bool.and_eq_true, Bool.and_eq_true] at e
    have e1 := I.un t ht e.1
    have e2 := of_decide_eq_true e.2.1
    have q0 : 0 < q.1 := by have := hq.1; omega
    refine (h ((t / m) % q.1) (Int.emod_nonneg _ (by omega)) (Int.emod_lt_of_pos _ q0) ?_).elim
    have h1 : (x + (t / m) % q.1 * m) % q.1 = (x + t / m * m) % q.1 := by
      rw [Int.add_emod, Int.mul_emod, Int.emod_emod, ← Int.mul_emod, ← Int.add_emod]
    rw [h1, ← e1, Int.mul_comm, Int.emod_add_mul_ediv]
    exact e2
theorem tog_some {l1 : List (Int × Int)} {q : Int × Int} {m x u : Int} (hl : ∀ p ∈ l1, OkP p) (I : TogI l1 m x) (hq : OkP q) (u0 : 0 ≤ u) (u1 : u < q.1) (h : (x + u * m) % q.1 = q.2) (hm : ∀ v, 0 ≤ v → v < u → (x + v * m) % q.1 ≠ q.2) :
    TogI (l1 ++ [q]) (lcmS m q) (x + u * m) := by
  have q0 : 0 < q.1 := by have := hq.1; omega
  have m0 : 0 < m := by rw [I.mc]; exact (cyc_spec hl).1
  have x0 := I.x0
  have um : 0 ≤ u * m := Int.mul_nonneg u0 (Int.le_of_lt m0)
  have g0 := gcdI_pos m q.1 m0
  obtain ⟨M, eM⟩ := gcdI_dvdL m q.1 (Int.le_of_lt m0)
  obtain ⟨w, ew⟩ := gcdI_dvdR m q.1 (Int.le_of_lt q0)
  have eL : lcmS m q = w * m := by
    have : m / gcdI m q.1 = M := by
      conv => lhs; rw [eM]
      conv => lhs; arg 2; rw [← eM]
      exact Int.mul_ediv_cancel_left _ (Int.ne_of_gt g0)
    unfold lcmS
    rw [this]
    conv => lhs; rw [ew]
    conv => rhs; rw [eM]
    rw [Int.mul_left_comm, Int.mul_comm M w, Int.mul_left_comm]
  have uw : u < w := by
    refine Int.not_le.mp fun z => ?_
    have w0 : 0 < w := by
      refine Int.not_le.mp fun y => ?_
      have := Int.mul_le_mul_of_nonneg_left y (Int.le_of_lt g0)
      rw [← ew] at this
      omega
    refine hm (u - w) (by omega) (by omega) ?_
    rw [← h]
    refine Int.emod_eq_emod_iff_emod_sub_eq_zero.mpr (Int.emod_eq_zero_of_dvd ?_)
    rw [show x + (u - w) * m - (x + u * m) = -(w * m) by rw [Int.sub_mul]; omega, ← eL]
    exact Int.dvd_neg.mpr (lcmS_dvdR m0 q0)
  have lt : x + u * m < lcmS m q := by
    rw [eL]
    have := Int.mul_le_mul_of_nonneg_right (show u + 1 ≤ w by omega) (Int.le_of_lt m0)
    rw [Int.add_mul] at this
    have := I.x1
    omega
  have lit : allLit (l1 ++ [q]) (x + u * m) = true := by
    unfold allLit
    rw [List.all_append, Bool.and_eq_true]
    refine ⟨List.all_eq_true.mpr fun p hp' => ?_, ?_⟩
    · rw [litP_per hl (t := x) ⟨u, by rw [← I.mc, Int.mul_comm u]; omega⟩ hp']
      exact allLit_mem I.lit hp'
    · rw [List.all_cons, List.all_nil, Bool.and_true]
      unfold litP
      rw [h]
      exact decide_eq_true rfl
  refine ⟨by rw [cyc_app, I.mc], by omega, lt, lit, fun t t0 ht => ?_⟩
  unfold allLit at ht
  rw [List.all_append, Bool.and_eq_true, List.all_cons, Bool.and_eq_true] at ht
  have e1 := I.un t t0 ht.1
  have e2 := of_decide_eq_true ht.2.1
  have d1 : m ∣ t - (x + u * m) := by
    have a1 : m ∣ t - x := by
      rw [← e1]
      exact Int.dvd_self_sub_emod
    have := Int.dvd_sub a1 (Int.dvd_mul_left u m)
    rwa [show t - x - u * m = t - (x + u * m) by omega] at this
  have d2 : q.1 ∣ t - (x + u * m) := Int.dvd_of_emod_eq_zero (Int.emod_eq_emod_iff_emod_sub_eq_zero.mp (e2.trans h.symm))
  have d3 := lcmS_dvd m0 q0 d1 d2
  have := Int.emod_eq_emod_iff_emod_sub_eq_zero.mpr (Int.emod_eq_zero_of_dvd d3)
  rw [this]
  exact Int.emod_eq_of_lt (by omega) lt

end K06
namespace K06
open PySem PySem.Spec PyProof.Rows L2 Fw
section
variable {P : Program} {w : World} {K : PySem.W.Frag} {mg : Str → Option Value} {base : Heap} {CB fI : Addr} {f : Addr} {fd fdI : FuncData} {k : Nat}
def LS (v : PyData) (Qe : Str → Prop) (k : List (Int × Int) → Prop) : Prop := (areLampsD v = false → Qe "lamps") ∧ ∀ l, v = encL l → OkL l → k l
def CS (h : PyData) (x : Str) (Qe : Str → Prop) (k : Int → Prop) : Prop := (isCountD h 0 1000000 = false → Qe x) ∧ ∀ i, h = .int i → 0 ≤ i → i ≤ 1000000 → k i
theorem isCount_iff {h : PyData} {lo hi : Int} (e : isCountD h lo hi = true) : ∃ i, h = .int i ∧ lo ≤ i ∧ i ≤ hi := by
  cases h <;> simp [isCountD] at e
  exact ⟨_, rfl, e.1, e.2⟩
theorem OkL.okP {l : List (Int × Int)} (h : OkL l) : ∀ p ∈ l, OkP p := h.2.2
def F_cycle : DSpec := fun ds Qd Qe => ∃ v, ds = [v] ∧ LS v Qe fun l => Qd (.int (cyc l))
theorem ok_cycle (ce : Cal P w K mg base CB 3 "expect" 2 F_expect) (ca : Cal P w K mg base CB 3 "are_lamps" 1 F_are_lamps) (cs : Cal P w K mg base CB 3 "shared" 2 F_shared) (Fd : FnP K "cycle" s_cycle f fd) : FnOk P w K mg base (L2.CX P w) 4 f fd ["lamps"] (spP K CB 1 F_cycle) :=
  def_ok Fd sc_cycle rfl fun cdv A outer s H0 O0 E ds Qd Qe hl hF B => by
    obtain ⟨v, rfl, hbad, hgood⟩ := hF
    refine ws_cons (w1_expect B ce (ge_gn (gn_call ca B.room (ga_cons (ge_var 0) ga_nil) rfl ⟨v, rfl, rfl⟩)) (fun h => ?_) fun h => hbad h)
    obtain ⟨l, rfl, ok⟩ := areLamps_iff.mp h
    refine ws_cons (w1_set 1 ge_int ?_ sc_cycle.nd)
    refine ws_cons (w1_forW (fun i Γ => Γ = [.dat (encL l), .dat (.int (cyc (l.take i))), .any, .any]) B.own rfl (gi_tup (ge_var 0)) rfl ?_ ?_)
    · rintro i d Γ1 hd rfl
      rw [List.getElem?_map] at hd
      obtain ⟨p, hp, rfl⟩ := Option.map_eq_some_iff.mp hd
      have hpl := ok.okP p (List.mem_of_getElem? hp)
      have hpre : ∀ q ∈ l.take i, OkP q := fun q hq => ok.okP q (List.mem_of_mem_take hq)
      obtain ⟨c1, c2, c3, c4⟩ := cyc_spec hpre
      have e : l.take (i + 1) = l.take i ++ [p] := by rw [List.take_add_one, hp]; rfl
      refine ⟨_, _, gg_tup rfl (ggs_cons (gg_name 2 sc_cycle.nd) (ggs_cons (gg_name 3 sc_cycle.nd) ggs_nil)), ?_⟩
      have g0 := gcdI_pos (cyc (l.take i)) p.1 c1
      have g1 := Int.le_of_dvd c1 (gcdI_dvdL (cyc (l.take i)) p.1 (Int.le_of_lt c1))
      refine ws_one (w1_set 1 (ge_mul (ge_fdiv (ge_var 1) (ge_gn (gn_call cs B.room (ga_cons (ge_var 1) (ga_cons (ge_var 2) ga_nil)) rfl ⟨_, _, rfl, by omega, by have := hpl.1; omega, rfl⟩)) ⟨g0, by omega⟩) (ge_var 2) (.inr ⟨by have := hpl.1; omega, by have := hpl.2.1; omega⟩)) ?_ sc_cycle.nd)
      refine ⟨_, (wk_any 2).trans (wk_any 3), ?_⟩
      rw [e, cyc_app]
      rfl
    · rintro Γ' rfl
      refine ws_one (w1_ret (ge_var 1) ?_)
      rw [List.length_map, List.take_length]
      exact hgood l rfl ok
def F_shining : DSpec := fun ds Qd Qe => ∃ v h, ds = [v, h] ∧ LS v Qe fun l => CS h "hour" Qe fun i => Qd (.tuple ((idxs (litP i) l).map .int))
theorem ok_shining (N : Nm mg) (ce : Cal P w K mg base CB 3 "expect" 2 F_expect) (ca : Cal P w K mg base CB 3 "are_lamps" 1 F_are_lamps) (cc : Cal P w K mg base CB 3 "is_count" 3 F_is_count) (Fd : FnP K "shining" s_shining f fd) : FnOk P w K mg base (L2.CX P w) 4 f fd ["lamps", "hour"] (spP K CB 2 F_shining) :=
  def_ok Fd sc_shining rfl fun cdv A outer s H0 O0 E ds Qd Qe hl hF B => by
    obtain ⟨v, h, rfl, hbad, hgood⟩ := hF
    refine ws_cons (w1_expect B ce (ge_gn (gn_call ca B.room (ga_cons (ge_var 0) ga_nil) rfl ⟨v, rfl, rfl⟩)) (fun z => ?_) fun z => hbad z)
    obtain ⟨l, rfl, ok⟩ := areLamps_iff.mp z
    obtain ⟨hb2, hg2⟩ := hgood l rfl ok
    refine ws_cons (w1_expect B ce (ge_gn (gn_call cc B.room (ga_cons (ge_var 1) (ga_cons ge_int (ga_cons (ge_glI N.i_MOST_HOUR) ga_nil))) rfl ⟨_, _, _, rfl, rfl⟩)) (fun z => ?_) fun z => hb2 z)
    obtain ⟨i, rfl, i0, i1⟩ := isCount_iff z
    refine ws_one (w1_ret (ge_tupleOf N.n_tuple (gs_gl (gl_filI (p := fun q : (Int × Int) × Nat => litP i q.1) (g := fun q => ((q.2 : Nat) : Int)) [("at", 2), ("own", 3)] rfl sc_shining.nd (gi_enumT N.n_enumerate (ge_var 0)) (by rw [List.length_zipIdx]; have := ok.2.1; omega) (fun x hx s H Cc cl fp => gg_tup rfl (ggs_cons (gg_name 2 sc_shining.nd) (ggs_cons (gg_name 3 sc_shining.nd) ggs_nil))) (fun x hx s H Cc cl fp => ?_) (fun x hx hp s H Cc cl fp => ge_var 2)))) ?_)
    · have hpl := ok.okP x.1 (by
        have := List.mem_zipIdx' hx
        rw [this.2]
        exact List.getElem_mem _)
      exact gt_eqI (ge_mod (ge_var 1) (ge_ixT (ge_var 3) ge_int (atI_nat (j := 0) rfl)) (by have := hpl.1; omega)) (ge_ixT (ge_var 3) ge_int (atI_nat (j := 1) rfl))
    · exact hg2 i rfl i0 i1
def F_is_clash_of : DSpec := fun ds Qd _ => ∃ p q, ds = [encP p, encP q] ∧ OkP p ∧ OkP q ∧ Qd (.bool (clashB p q))
theorem ok_is_clash_of (cs : Cal P w K mg base CB 1 "shared" 2 F_shared) (Fd : FnP K "is_clash_of" s_is_clash_of f fd) : FnOk P w K mg base (L2.CX P w) 2 f fd ["one", "other"] (spP K CB 2 F_is_clash_of) :=
  def_ok Fd sc_is_clash_of rfl fun cdv A outer s H0 O0 E ds Qd Qe hl hF B => by
    obtain ⟨p, q, rfl, hp, hq, h⟩ := hF
    refine ws_one (w1_ret (ge_neI (ge_mod (ge_sub (ge_ixT (ge_var 0) ge_int (atI_nat (j := 1) rfl)) (ge_ixT (ge_var 1) ge_int (atI_nat (j := 1) rfl))) (ge_gn (gn_call cs B.room (ga_cons (ge_ixT (ge_var 0) ge_int (atI_nat (j := 0) rfl)) (ga_cons (ge_ixT (ge_var 1) ge_int (atI_nat (j := 0) rfl)) ga_nil)) rfl ⟨p.1, q.1, rfl, by have := hp.1; omega, by have := hq.1; omega, rfl⟩)) (gcdI_pos p.1 q.1 (by have := hp.1; omega))) ge_int) h)
end

end K06
namespace K06
open PySem PySem.Spec PyProof.Rows L2 Fw
section
variable {P : Program} {w : World} {K : PySem.W.Frag} {mg : Str → Option Value} {base : Heap} {CB fI : Addr} {f : Addr} {fd fdI : FuncData} {k : Nat}
def TogR (l : List (Int × Int)) (d : PyData) : Prop := (d = .none ∧ ∀ t, 0 ≤ t → allLit l t = false) ∨ (∃ h, d = .int h ∧ 0 ≤ h ∧ h < cyc l ∧ allLit l h = true ∧ ∀ t, 0 ≤ t → allLit l t = true → t % cyc l = h)
def F_together : DSpec := fun ds Qd Qe => ∃ v, ds = [v] ∧ LS v Qe fun l => ∀ d, TogR l d → Qd d
theorem rngD_map (lo : Int) (n : Nat) : rngD lo n = (List.range n).map fun (i : Nat) => PyData.int (lo + i) := rfl
theorem head_filter {α : Type} {p : α → Bool} : ∀ {xs : List α} {y : α} {ys : List α}, xs.filter p = y :: ys → ∃ i : Nat, xs[i]? = some y ∧ p y = true ∧ ∀ j : Nat, j < i → ∀ z, xs[j]? = some z → p z = false
  | [], _, _, h => by cases h
  | x :: xs, y, ys, h => by
    rw [List.filter_cons] at h
    cases e : p x with
    | true =>
      rw [e, if_pos rfl] at h
      obtain ⟨rfl, _⟩ := List.cons.inj h
      exact ⟨0, rfl, e, fun j hj => by omega⟩
    | false =>
      rw [e, if_neg Bool.false_ne_true] at h
      obtain ⟨i, h1, h2, h3⟩ := head_filter h
      refine ⟨i + 1, h1, h2, fun j hj z hz => ?_⟩
      cases j with
      | zero => cases hz; exact e
      | succ j => exact h3 j (by omega) z hz
theorem ok_together (ce : Cal P w K mg base CB 3 "expect" 2 F_expect) (ca : Cal P w K mg base CB 3 "are_lamps" 1 F_are_lamps) (cs : Cal P w K mg base CB 3 "shared" 2 F_shared) (N : Nm mg) (Fd : FnP K "together" s_together f fd) : FnOk P w K mg base (L2.CX P w) 4 f fd ["lamps"] (spP K CB 1 F_together) :=
  def_ok Fd sc_together rfl fun cdv A outer s H0 O0 E ds Qd Qe hl hF B => by
    obtain ⟨v, rfl, hbad, hgood⟩ := hF
    refine ws_cons (w1_expect B ce (ge_gn (gn_call ca B.room (ga_cons (ge_var 0) ga_nil) rfl ⟨v, rfl, rfl⟩)) (fun h => ?_) fun h => hbad h)
    obtain ⟨l, rfl, ok⟩ := areLamps_iff.mp h
    refine ws_cons (w1_asg (ge_tup (ga_cons ge_int (ga_cons ge_int ga_nil))) (gg_tup rfl (ggs_cons (gg_name 1 sc_together.nd) (ggs_cons (gg_name 2 sc_together.nd) ggs_nil))) ?_)
    refine ws_cons (w1_forW (fun i Γ => ∃ m x, TogI (l.take i) m x ∧ Γ = [.dat (encL l), .dat (.int m), .dat (.int x), .any, .any, .any, .any]) B.own rfl (gi_tup (ge_var 0)) ⟨1, 0, togI_nil, rfl⟩ ?_ ?_)
    · rintro i d Γ1 hd ⟨m, x, I, rfl⟩
      rw [List.getElem?_map] at hd
      obtain ⟨p, hp, rfl⟩ := Option.map_eq_some_iff.mp hd
      have hpl := ok.okP p (List.mem_of_getElem? hp)
      have hpre : ∀ q ∈ l.take i, OkP q := fun q hq => ok.okP q (List.mem_of_mem_take hq)
      obtain ⟨c1, c2, c3, c4⟩ := cyc_spec hpre
      rw [← I.mc] at c1 c2
      have x0 := I.x0
      have x1 := I.x1
      obtain ⟨p1, p2, p3, p4⟩ := hpl
      have cm : ∀ j : Int, CMul j m := fun j => .inr ⟨by omega, by omega⟩
      refine ⟨_, _, gg_tup rfl (ggs_cons (gg_name 3 sc_together.nd) (ggs_cons (gg_name 4 sc_together.nd) ggs_nil)), ?_⟩
      refine ws_cons (w1_setF 5 (xs := List.range p.1.toNat) (p := fun t => decide ((x + ((0 : Int) + (t : Nat)) * m) % p.1 = p.2)) (g := fun t => .int ((0 : Int) + (t : Nat))) [("turn", 6)] rfl sc_together.nd (gi_range1 N.n_range (ge_var 3) (by omega) (by omega)) (by rw [List.length_range]; omega) (fun t ht s H Cc cl fp => gg_name 6 sc_together.nd)
        (fun t ht s H Cc cl fp => gt_eqI (ge_mod (ge_add (ge_var 2) (ge_mul (ge_var 6) (ge_var 1) (cm _))) (ge_var 3) (by omega)) (ge_var 4)) (fun t ht hp s H Cc cl fp => ge_var 6) ?_)
      generalize hfl : (List.range p.1.toNat).filter (fun t => decide ((x + ((0 : Int) + (t : Nat)) * m) % p.1 = p.2)) = fl
      refine ws_cons (w1_if (gt_not (gt_truL (gs_own 5 rfl))) (fun hb => ?_) fun hb => ws_nil ?_)
      · refine ws_one (w1_ret ge_non (hgood l rfl ok .none (.inl ⟨rfl, fun t t0 => ?_⟩)))
        have e : l = l.take i ++ p :: l.drop (i + 1) := by
          conv => lhs; rw [← List.take_append_drop i l]
          rw [List.drop_eq_getElem_cons (List.getElem?_eq_some_iff.mp hp).1, (List.getElem?_eq_some_iff.mp hp).2]
        rw [e]
        refine tog_none I c1 ⟨p1, p2, p3, p4⟩ (fun u u0 u1 z => ?_) t t0
        have hf : fl = [] := by
          cases fl with
          | nil => rfl
          | cons _ _ => simp at hb
        rw [hf, List.filter_eq_nil_iff] at hfl
        refine hfl u.toNat (List.mem_range.mpr (by omega)) ?_
        rw [decide_eq_true_eq, Int.toNat_of_nonneg u0, Int.zero_add]
        exact z
      · match fl, hfl, hb with
        | [], _, hb => simp at hb
        | u :: us, hfl, _ =>
          obtain ⟨n, h1, h2, h3⟩ := head_filter hfl
          have hn := (List.getElem?_eq_some_iff.mp h1).1
          rw [List.length_range] at hn
          rw [List.getElem?_range hn] at h1
          have hu := Option.some.inj h1
          subst hu
          have h2' := of_decide_eq_true h2
          have h3' : ∀ v : Int, 0 ≤ v → v < ((0 : Int) + (n : Nat)) → (x + v * m) % p.1 ≠ p.2 := fun v v0 v1 z => by
            have := h3 v.toNat (by omega) v.toNat (by rw [List.getElem?_range (by omega)])
            rw [decide_eq_false_iff_not, Int.toNat_of_nonneg v0, Int.zero_add] at this
            exact this z
          have T := tog_some hpre I ⟨p1, p2, p3, p4⟩ (by omega) (by omega) h2' h3'
          have e : l.take (i + 1) = l.take i ++ [p] := by rw [List.take_add_one, hp]; rfl
          have g0 := gcdI_pos m p.1 c1
          have g1 := Int.le_of_dvd c1 (gcdI_dvdL m p.1 (Int.le_of_lt c1))
          refine ws_cons (w1_set 2 (ge_add (ge_var 2) (ge_mul (ge_ixO 5 rfl ge_int (atI_nat (j := 0) rfl)) (ge_var 1) (cm _))) ?_ sc_together.nd)
          refine ws_one (w1_set 1 (ge_mul (ge_fdiv (ge_var 1) (ge_gn (gn_call cs B.room (ga_cons (ge_var 1) (ga_cons (ge_var 3) ga_nil)) rfl ⟨_, _, rfl, by omega, by omega, rfl⟩)) ⟨g0, by omega⟩) (ge_var 3) (.inr ⟨by omega, by omega⟩)) ?_ sc_together.nd)
          exact ⟨_, (((wk_any 3).trans (wk_any 4)).trans (wk_any 5)).trans (wk_any 6), _, _, by rw [e]; exact T, rfl⟩
    · rintro Γ' ⟨m, x, I, rfl⟩
      rw [List.length_map, List.take_length] at I
      refine ws_one (w1_ret (ge_var 2) (hgood l rfl ok _ (.inr ⟨x, rfl, I.x0, ?_, I.lit, ?_⟩)))
      · rw [← I.mc]; exact I.x1
      · rw [← I.mc]; exact I.un
def noCl (l : List (Int × Int)) (i j : Nat) : Prop := ∀ p q, l[i]? = some p → l[j]? = some q → clashB p q = false
def ClashR (l : List (Int × Int)) (d : PyData) : Prop := (d = .none ∧ ∀ i j, i < j → j < l.length → noCl l i j) ∨
  (∃ i j p q, i < j ∧ d = .tuple [.int (i : Nat), .int (j : Nat)] ∧ l[i]? = some p ∧ l[j]? = some q ∧ clashB p q = true ∧ ∀ i' j', i' < j' → j' < l.length → (i' < i ∨ (i' = i ∧ j' < j)) → noCl l i' j')
def F_clash : DSpec := fun ds Qd Qe => ∃ v, ds = [v] ∧ LS v Qe fun l => ∀ d, ClashR l d → Qd d
theorem encL_len (l : List (Int × Int)) : (l.map encP).length = l.length := List.length_map _
theorem encL_at {l : List (Int × Int)} {i : Nat} {p : Int × Int} (h : l[i]? = some p) : atI (l.map encP) (i : Nat) = some (encP p) := atI_nat (by rw [List.getElem?_map, h]; rfl)
theorem ok_clash (ce : Cal P w K mg base CB 3 "expect" 2 F_expect) (ca : Cal P w K mg base CB 3 "are_lamps" 1 F_are_lamps) (cs : Cal P w K mg base CB 3 "is_clash_of" 2 F_is_clash_of) (N : Nm mg) (Fd : FnP K "clash" s_clash f fd) : FnOk P w K mg base (L2.CX P w) 4 f fd ["lamps"] (spP K CB 1 F_clash) :=
  def_ok Fd sc_clash rfl fun cdv A outer s H0 O0 E ds Qd Qe hl hF B => by
    obtain ⟨v, rfl, hbad, hgood⟩ := hF
    refine ws_cons (w1_expect B ce (ge_gn (gn_call ca B.room (ga_cons (ge_var 0) ga_nil) rfl ⟨v, rfl, rfl⟩)) (fun h => ?_) fun h => hbad h)
    obtain ⟨l, rfl, ok⟩ := areLamps_iff.mp h
    have l5 := ok.2.1
    have hgd : ∀ d, ClashR l d → Qd d := hgood l rfl ok
    refine ws_cons (w1_forW (ds := rngD 0 ((l.map encP).length : Int).toNat) (fun n Γ => Γ = [.dat (encL l), .any, .any] ∧ ∀ i j, i < j → j < l.length → i < n → noCl l i j) B.own rfl (gi_range1 N.n_range (ge_lenT N.n_len (gr_ge (ge_var 0))) (by rw [encL_len]; omega) (by rw [encL_len]; omega)) ⟨rfl, fun i j _ _ h => by omega⟩ ?_ ?_)
    · rintro n d Γ1 hd ⟨rfl, hn⟩
      obtain ⟨hlt, rfl⟩ := rngD_get0 hd
      rw [Int.toNat_natCast, encL_len] at hlt
      obtain ⟨p, hp⟩ : ∃ p, l[n]? = some p := ⟨_, List.getElem?_eq_getElem hlt⟩
      refine ⟨_, _, gg_name 1 sc_clash.nd, ?_⟩
      refine ws_one (w1_forW (ds := rngD ((n : Int) + 1) (((l.map encP).length : Int) - ((n : Int) + 1)).toNat) (fun m Γ => Γ = [.dat (encL l), .dat (.int (n : Nat)), .any] ∧ ∀ j, n < j → j < l.length → j < n + 1 + m → noCl l n j) B.own rfl (gi_range2 N.n_range (ge_add (ge_var 1) ge_int) (ge_lenT N.n_len (gr_ge (ge_var 0))) (by rw [encL_len]; omega) (by rw [encL_len]; omega) (by omega) (by omega)) ⟨rfl, fun j _ _ h => by omega⟩ ?_ ?_)
      · rintro m d Γ1 hd ⟨rfl, hm⟩
        obtain ⟨hlt2, rfl⟩ := rngD_get hd
        rw [encL_len] at hlt2
        obtain ⟨q, hq⟩ : ∃ q, l[n + 1 + m]? = some q := ⟨_, List.getElem?_eq_getElem (by omega)⟩
        have z1 : (n : Int) + 1 + (m : Nat) = ((n + 1 + m : Nat) : Int) := by push_cast; rfl
        refine ⟨_, _, gg_name 2 sc_clash.nd, ?_⟩
        refine ws_one (w1_if (gt_val (ge_gn (gn_call cs B.room (ga_cons (ge_ixT (ge_var 0) (ge_var 1) (encL_at hp)) (ga_cons (ge_ixT (ge_var 0) (ge_cast (ge_var 2) (by rw [z1])) (encL_at hq)) ga_nil)) rfl ⟨p, q, rfl, ok.okP p (List.mem_of_getElem? hp), ok.okP q (List.mem_of_getElem? hq), rfl⟩))) (fun hb => ?_) fun hb => ws_nil ?_)
        · refine ws_one (w1_ret (ge_tup (ga_cons (ge_var 1) (ga_cons (ge_var 2) ga_nil))) (hgd _ (.inr ⟨n, n + 1 + m, p, q, by omega, by rw [z1], hp, hq, hb, fun i j h1 h2 h3 => ?_⟩)))
          rcases h3 with h3 | ⟨rfl, h3⟩
          · exact hn i j h1 h2 h3
          · exact hm j h1 h2 h3
        · refine ⟨_, wk_any 2, rfl, fun j h1 h2 h3 => ?_⟩
          by_cases e : j < n + 1 + m
          · exact hm j h1 h2 e
          · have : j = n + 1 + m := by omega
            subst this
            intro p' q' hp' hq'
            rw [hp] at hp'
            rw [hq] at hq'
            cases hp'
            cases hq'
            exact hb
      · rintro Γ' ⟨rfl, hm⟩
        refine ⟨_, (wk_any 1).trans (wk_any 2), rfl, fun i j h1 h2 h3 => ?_⟩
        by_cases e : i < n
        · exact hn i j h1 h2 e
        · have : i = n := by omega
          subst this
          refine hm j h1 h2 ?_
          rw [rngD_len, encL_len]
          omega
    · rintro Γ' ⟨rfl, hn⟩
      refine ws_one (w1_ret ge_non (hgd _ (.inl ⟨rfl, fun i j h1 h2 => hn i j h1 h2 ?_⟩)))
      rw [rngD_len, Int.toNat_natCast, encL_len]
      omega
end

end K06
namespace K06
open PySem PySem.Spec PyProof.Rows L2 Fw
theorem encL_inj : ∀ {l l' : List (Int × Int)}, encL l = encL l' → l' = l := by
  have key : ∀ l l' : List (Int × Int), l.map encP = l'.map encP → l' = l := by
    intro l
    induction l with
    | nil => intro l' h; cases l' with
      | nil => rfl
      | cons _ _ => cases h
    | cons p l ih =>
      intro l' h
      cases l' with
      | nil => cases h
      | cons q l' =>
        obtain ⟨h1, h2⟩ := List.cons.inj h
        rw [ih l' h2]
        unfold encP at h1
        injection h1 with h1
        injection h1 with a b
        injection b with b c
        injection a with a
        injection b with b
        rw [show q = p from Prod.ext a.symm b.symm]
  intro l l' h
  injection h with h
  exact key l l' h
theorem LS.mk {l : List (Int × Int)} (ok : OkL l) {Qe : Str → Prop} {k : List (Int × Int) → Prop} (h : k l) : LS (encL l) Qe k :=
  ⟨fun e => (by rw [areLamps_iff.mpr ⟨l, rfl, ok⟩] at e; cases e), fun l' e _ => by rw [encL_inj e]; exact h⟩
theorem LS.bad {v : PyData} (h : areLampsD v = false) {Qe : Str → Prop} {k : List (Int × Int) → Prop} (q : Qe "lamps") : LS v Qe k :=
  ⟨fun _ => q, fun l e ok => by rw [areLamps_iff.mpr ⟨l, e, ok⟩] at h; cases h⟩
section
variable {P : Program} {w : World} {K : PySem.W.Frag} {mg : Str → Option Value} {base : Heap} {CB fI : Addr} {f : Addr} {fd fdI : FuncData} {k : Nat}
def idxPair (l : List (Int × Int)) (v : PyData) : Bool := isListD v 2 2 && (tupOf v).all fun o => isCountD o 0 ((l.length : Int) - 1)
theorem idxPair_iff {l : List (Int × Int)} {v : PyData} (h : idxPair l v = true) : ∃ i j : Nat, v = .tuple [.int (i : Nat), .int (j : Nat)] ∧ i < l.length ∧ j < l.length := by
  unfold idxPair at h
  rw [Bool.and_eq_true] at h
  obtain ⟨h1, h2⟩ := h
  cases v <;> simp [isListD] at h1
  rename_i ds
  match ds, h1, h2 with
  | [a, b], _, h2 =>
    simp only [tupOf, List.all_cons, List.all_nil, Bool.and_true, Bool.and_eq_true] at h2
    obtain ⟨i, rfl, i0, i1⟩ := isCount_iff h2.1
    obtain ⟨j, rfl, j0, j1⟩ := isCount_iff h2.2
    exact ⟨i.toNat, j.toNat, by rw [Int.toNat_of_nonneg i0, Int.toNat_of_nonneg j0], by omega, by omega⟩
  | [], h, _ => simp at h
  | [_], h, _ => simp at h
  | _ :: _ :: _ :: _, h, _ => simp at h; omega
def F_is_clash : DSpec := fun ds Qd Qe => ∃ lv v, ds = [lv, v] ∧ LS lv Qe fun l => (idxPair l v = false → Qd (.bool false)) ∧ ∀ i j : Nat, ∀ p q, v = .tuple [.int (i : Nat), .int (j : Nat)] → l[i]? = some p → l[j]? = some q → Qd (.bool (decide ((i : Int) < (j : Nat)) && clashB p q))
theorem ok_is_clash (ce : Cal P w K mg base CB 3 "expect" 2 F_expect) (ca : Cal P w K mg base CB 3 "are_lamps" 1 F_are_lamps) (cs : Cal P w K mg base CB 3 "is_clash_of" 2 F_is_clash_of) (cl : Cal P w K mg base CB 3 "is_list" 3 F_is_list) (cc : Cal P w K mg base CB 3 "is_count" 3 F_is_count) (N : Nm mg) (Fd : FnP K "is_clash" s_is_clash f fd) : FnOk P w K mg base (L2.CX P w) 4 f fd ["lamps", "value"] (spP K CB 2 F_is_clash) :=
  def_ok Fd sc_is_clash rfl fun cdv A outer s H0 O0 E ds Qd Qe hl hF B => by
    obtain ⟨lv, v, rfl, hbad, hgood⟩ := hF
    refine ws_cons (w1_expect B ce (ge_gn (gn_call ca B.room (ga_cons (ge_var 0) ga_nil) rfl ⟨lv, rfl, rfl⟩)) (fun h => ?_) fun h => hbad h)
    obtain ⟨l, rfl, ok⟩ := areLamps_iff.mp h
    have l5 := ok.2.1
    obtain ⟨g1, g2⟩ := hgood l rfl ok
    refine ws_cons (w1_if (z := !(isListD v 2 2) || !((tupOf v).all fun o => isCountD o 0 ((l.length : Int) - 1))) (gt_w (gw_or (gt_not (gt_val (ge_gn (gn_call cl B.room (ga_cons (ge_var 1) (ga_cons ge_int (ga_cons ge_int ga_nil))) rfl ⟨_, _, _, rfl, rfl⟩)))) fun h => gw_or1 (gt_not (gt_val ?_)))) (fun h => ?_) fun h => ws_nil ?_)
    · cases v <;> simp [isListD] at h
      rename_i ds
      refine ge_allB N.n_all rfl (gs_gl (gl_mapB [("own", 2)] rfl sc_is_clash.nd (gi_tupD (ge_var 1)) (by simp only [tupOf]; omega) (fun x hx s H Cc cl' fp => gg_name 2 sc_is_clash.nd) (fun x hx s H Cc cl' fp => ge_gn (gn_call cc B.room (ga_cons (ge_var 2) (ga_cons ge_int (ga_cons (ge_cast (ge_sub (ge_lenT N.n_len (gr_ge (ge_var 0))) ge_int) (by rw [encL_len])) ga_nil))) rfl ⟨_, _, _, rfl, rfl⟩))))
    · refine ws_one (w1_ret ge_bl (g1 ?_))
      unfold idxPair
      rw [Bool.or_eq_true, Bool.not_eq_true', Bool.not_eq_true'] at h
      rcases h with h | h <;> rw [h] <;> simp
    · have hp : idxPair l v = true := by
        unfold idxPair
        rw [Bool.or_eq_false_iff, Bool.not_eq_false', Bool.not_eq_false'] at h
        rw [h.1, h.2]
        rfl
      obtain ⟨i, j, rfl, hi, hj⟩ := idxPair_iff hp
      obtain ⟨p, ep⟩ : ∃ p, l[i]? = some p := ⟨_, List.getElem?_eq_getElem hi⟩
      obtain ⟨q, eq⟩ : ∃ q, l[j]? = some q := ⟨_, List.getElem?_eq_getElem hj⟩
      refine ws_one (w1_ret (ge_and (ge_lt (ge_ixT (ge_var 1) ge_int (atI_nat (j := 0) rfl)) (ge_ixT (ge_var 1) ge_int (atI_nat (j := 1) rfl))) fun _ => ge_one (ge_gn (gn_call cs B.room (ga_cons (ge_ixT (ge_var 0) (ge_ixT (ge_var 1) ge_int (atI_nat (j := 0) rfl)) (encL_at ep)) (ga_cons (ge_ixT (ge_var 0) (ge_ixT (ge_var 1) ge_int (atI_nat (j := 1) rfl)) (encL_at eq)) ga_nil)) rfl ⟨p, q, rfl, ok.okP p (List.mem_of_getElem? ep), ok.okP q (List.mem_of_getElem? eq), rfl⟩))) (g2 i j p q rfl ep eq))
def litRow (l : List (Int × Int)) : List Bool := (List.range (cyc l).toNat).map fun (i : Nat) => litAt l (i : Nat)
def F_lit_row : DSpec := fun ds Qd Qe => ∃ v, ds = [v] ∧ LS v Qe fun l => Qd (.list ((litRow l).map .bool))
theorem ok_lit_row (cy : Cal P w K mg base CB 4 "cycle" 1 F_cycle) (N : Nm mg) (Fd : FnP K "lit_row" s_lit_row f fd) : FnOk P w K mg base (L2.CX P w) 5 f fd ["lamps"] (spP K CB 1 F_lit_row) :=
  def_ok Fd sc_lit_row rfl fun cdv A outer s H0 O0 E ds Qd Qe hl hF B => by
    obtain ⟨v, rfl, hbad, hgood⟩ := hF
    cases h : areLampsD v with
    | false => exact ws_one (w1_retN (gn_lcF (P := fun _ => False) [("hour", 3)] rfl sc_lit_row.nd (gif_range1 N.n_range (gn_callE B.pass cy B.room (ga_cons (ge_var 0) ga_nil) rfl ⟨v, rfl, LS.bad h (hbad h)⟩ B.exc))) fun _ z => z.elim)
    | true =>
      obtain ⟨l, rfl, ok⟩ := areLamps_iff.mp h
      obtain ⟨c1, c2, c3, c4⟩ := cyc_spec ok.okP
      refine ws_one (w1_ret (ge_gl (gl_mapB (xs := List.range (cyc l).toNat) (g := fun i => litAt l ((i : Nat) : Int)) [("hour", 3)] rfl sc_lit_row.nd (gi_cast (gi_range1 N.n_range (ge_gn (gn_call cy B.room (ga_cons (ge_var 0) ga_nil) rfl ⟨_, rfl, LS.mk ok rfl⟩)) (by omega) (by omega)) (rngD_0 _)) (by rw [List.length_range]; omega) (fun x hx s H Cc cl' fp => gg_name 3 sc_lit_row.nd) (fun x hx s H Cc cl' fp =>
        ge_anyB N.n_any rfl (gs_gl (gl_mapB (xs := l) (g := litP ((x : Nat) : Int)) [("period", 1), ("first", 2)] rfl sc_lit_row.nd (gi_tup (ge_var 0)) (by have := ok.2.1; omega) (fun p hp s H Cc cl' fp => gg_tup rfl (ggs_cons (gg_name 1 sc_lit_row.nd) (ggs_cons (gg_name 2 sc_lit_row.nd) ggs_nil))) (fun p hp s H Cc cl' fp => ge_eqI (ge_mod (ge_var 3) (ge_var 1) (by have := (ok.okP p hp).1; omega)) (ge_var 2))))))) (hgood l rfl ok))
end

end K06
namespace K06
open PySem PySem.Spec PyProof.Rows L2 Fw
/-! ### dark -/
def DI (l : List (Int × Int)) (m q here bh bs : Int) : Prop := 0 ≤ here ∧ (∀ u, 0 ≤ u → u < here → litAt l (q + u) = false) ∧ (litAt l (q + here) = true ∨ q + here = 2 * m) ∧ ((m ≤ q ∧ bh = 0 ∧ bs = 0) ∨ (q < m ∧ DarkR l q m bh bs))
theorem dark_step {l : List (Int × Int)} (ok : OkL l) {m q here bh bs : Int} (hm : m = cyc l) (q0 : 0 < q) (q1 : q ≤ 2 * m) (D : DI l m q here bh bs) {here' : Int} (hh : here' = if litAt l (q - 1) = true then 0 else here + 1) :
    ((decide (q - 1 < m) && decide (bs ≤ here')) = true → DI l m (q - 1) here' (q - 1) here') ∧ ((decide (q - 1 < m) && decide (bs ≤ here')) = false → DI l m (q - 1) here' bh bs) := by
  obtain ⟨d1, d2, d3, d4⟩ := D
  have A : 0 ≤ here' ∧ (∀ u, 0 ≤ u → u < here' → litAt l (q - 1 + u) = false) ∧ (litAt l (q - 1 + here') = true ∨ q - 1 + here' = 2 * m) := by
    cases e : litAt l (q - 1) with
    | true =>
      rw [e, if_pos rfl] at hh
      subst hh
      refine ⟨Int.le_refl 0, fun u h1 h2 => by omega, .inl ?_⟩
      rw [Int.add_zero]
      exact e
    | false =>
      rw [e, if_neg Bool.false_ne_true] at hh
      subst hh
      refine ⟨by omega, fun u h1 h2 => ?_, ?_⟩
      · by_cases z : u = 0
        · rw [z, Int.add_zero]; exact e
        · rw [show q - 1 + u = q + (u - 1) by omega]
          exact d2 (u - 1) (by omega) (by omega)
      · rw [show q - 1 + (here + 1) = q + here by omega]
        exact d3
  have R : q - 1 < m → IsRun l (q - 1) here' := fun hlt => by
    refine ⟨A.1, A.2.1, A.2.2.resolve_right fun z => ?_⟩
    obtain ⟨h0, a0, a1, a2⟩ := lit_some ok
    rw [← hm] at a1
    have := A.2.1 (m + h0 - (q - 1)) (by omega) (by omega)
    rw [show q - 1 + (m + h0 - (q - 1)) = m + h0 by omega] at this
    rw [litAt_per ok.okP (t := h0) ⟨1, by rw [← hm]; omega⟩] at this
    rw [a2] at this
    cases this
  refine ⟨fun h => ?_, fun h => ?_⟩
  · rw [Bool.and_eq_true, decide_eq_true_eq, decide_eq_true_eq] at h
    refine ⟨A.1, A.2.1, A.2.2, .inr ⟨h.1, Int.le_refl _, h.1, R h.1, fun h' b1 b2 t ht => ?_⟩⟩
    by_cases z : h' = q - 1
    · subst z
      have := isRun_uniq ht (R h.1)
      omega
    · rcases d4 with ⟨e1, e2, e3⟩ | ⟨e1, e2⟩
      · omega
      · have := (e2.2.2.2 h' (by omega) b2 t ht).1
        omega
  · refine ⟨A.1, A.2.1, A.2.2, ?_⟩
    by_cases hlt : q - 1 < m
    · right
      rw [decide_eq_true hlt, Bool.true_and, decide_eq_false_iff_not] at h
      rcases d4 with ⟨e1, e2, e3⟩ | ⟨e1, e2⟩
      · have := A.1
        omega
      · refine ⟨hlt, by have := e2.1; omega, e2.2.1, e2.2.2.1, fun h' b1 b2 t ht => ?_⟩
        by_cases z : h' = q - 1
        · subst z
          have := isRun_uniq ht (R hlt)
          omega
        · exact e2.2.2.2 h' (by omega) b2 t ht
    · rcases d4 with ⟨e1, e2, e3⟩ | ⟨e1, e2⟩
      · exact .inl ⟨by omega, e2, e3⟩
      · omega
theorem litRow_at {l : List (Int × Int)} (ok : OkL l) (h : Int) : atI ((litRow l).map PyData.bool) (h % cyc l) = some (.bool (litAt l h)) := by
  have c1 := (cyc_spec ok.okP).1
  have h0 := Int.emod_nonneg h (Int.ne_of_gt c1)
  have h1 := Int.emod_lt_of_pos h c1
  refine atI_of h0 ?_
  unfold litRow
  rw [List.getElem?_map, List.getElem?_map, List.getElem?_range (by omega)]
  show some (PyData.bool (litAt l ((h % cyc l).toNat : Nat))) = _
  rw [Int.toNat_of_nonneg h0, litAt_mod ok.okP]
theorem litRow_len {l : List (Int × Int)} (ok : OkL l) : (((litRow l).map PyData.bool).length : Int) = cyc l := by
  unfold litRow
  rw [List.length_map, List.length_map, List.length_range]
  have := (cyc_spec ok.okP).1
  omega
theorem next_ok {l : List (Int × Int)} (ok : OkL l) (i : Int) : NextR l i (leastI (l.map fun p => i + (p.2 - i) % p.1)) := by
  have hne : (l.map fun p => i + (p.2 - i) % p.1) ≠ [] := fun h => by
    rw [List.map_eq_nil_iff] at h
    have := ok.1
    rw [h] at this
    simp at this
  obtain ⟨h1, h2⟩ := leastI_spec hne
  generalize leastI (l.map fun p => i + (p.2 - i) % p.1) = r at h1 h2
  obtain ⟨p, hp, e⟩ := List.mem_map.mp h1
  have okp := ok.okP p hp
  have p0 : 0 < p.1 := by have := okp.1; omega
  refine ⟨r - i, ⟨?_, fun u u0 u1 => ?_, ?_⟩, by omega⟩
  · have := Int.emod_nonneg (p.2 - i) (Int.ne_of_gt p0)
    omega
  · cases z : litAt l (i + u) with
    | false => rfl
    | true =>
      obtain ⟨q, hq, hl⟩ := List.any_eq_true.mp z
      have okq := ok.okP q hq
      have q0 : 0 < q.1 := by have := okq.1; omega
      have := h2 _ (List.mem_map.mpr ⟨q, hq, rfl⟩)
      have d := (litP_dvd okq).mp hl
      have e2 : (q.2 - i) % q.1 = u % q.1 := by
        refine Int.emod_eq_emod_iff_emod_sub_eq_zero.mpr (Int.emod_eq_zero_of_dvd ?_)
        rw [show q.2 - i - u = -(i + u - q.2) by omega]
        exact Int.dvd_neg.mpr d
      have e3 : u % q.1 ≤ u := by
        have a1 := Int.mul_nonneg (Int.le_of_lt q0) (Int.ediv_nonneg u0 (Int.le_of_lt q0))
        have a2 := Int.emod_def u q.1
        omega
      omega
  · refine List.any_eq_true.mpr ⟨p, hp, ?_⟩
    rw [litP_dvd okp]
    refine ⟨-((p.2 - i) / p.1), ?_⟩
    have := Int.emod_def (p.2 - i) p.1
    rw [Int.mul_neg]
    omega
/-! ### lit hours -/
def hoursL (l : List (Int × Int)) (n : Nat) : List Nat := (List.range n).filter fun i => litAt l ((i : Nat) : Int)
theorem hoursL_len (l : List (Int × Int)) (n : Nat) : (hoursL l n).length = cntN l n := cntN_filter l n
theorem hoursL_get (l : List (Int × Int)) : ∀ (n k h : Nat), (hoursL l n)[k]? = some h → litAt l (h : Nat) = true ∧ h < n ∧ cntN l h = k
  | 0, k, h, e => by cases e
  | n + 1, k, h, e => by
    have e0 : hoursL l (n + 1) = hoursL l n ++ (if litAt l (n : Nat) = true then [n] else []) := by
      unfold hoursL
      rw [List.range_succ, List.filter_append, List.filter_cons, List.filter_nil]
    rw [e0] at e
    by_cases hk : k < (hoursL l n).length
    · rw [List.getElem?_append_left hk] at e
      obtain ⟨h1, h2, h3⟩ := hoursL_get l n k h e
      exact ⟨h1, by omega, h3⟩
    · rw [List.getElem?_append_right (by omega)] at e
      by_cases hl : litAt l (n : Nat) = true
      · rw [if_pos hl] at e
        have hlt := (List.getElem?_eq_some_iff.mp e).1
        rw [List.length_singleton] at hlt
        have : k - (hoursL l n).length = 0 := by omega
        rw [this] at e
        cases e
        exact ⟨hl, by omega, by rw [← hoursL_len]; omega⟩
      · rw [if_neg hl] at e
        cases e
theorem cnt_pos {l : List (Int × Int)} (ok : OkL l) : 0 < cntN l (cyc l).toNat := by
  obtain ⟨h, h0, h1, h2⟩ := lit_some ok
  have a := cntN_mono l (show h.toNat + 1 ≤ (cyc l).toNat by omega)
  have b : cntN l (h.toNat + 1) = cntN l h.toNat + 1 := by
    show cntN l h.toNat + (if litAt l (h.toNat : Nat) = true then 1 else 0) = _
    rw [Int.toNat_of_nonneg h0, if_pos h2]
  omega
theorem row_take (l : List (Int × Int)) {m n : Nat} (h : n ≤ m) : (((List.range m).map fun (i : Nat) => litAt l (i : Nat)).take n).filter (fun b => b) = ((hoursL l n).map fun _ => true) := by
  rw [← List.map_take, List.take_range, Nat.min_eq_left h, List.filter_map]
  unfold hoursL
  refine List.map_congr_left fun i hi => ?_
  exact (List.mem_filter.mp hi).2
theorem row_zip (l : List (Int × Int)) (m : Nat) : ((((List.range m).map fun (i : Nat) => litAt l (i : Nat)).zipIdx.filter fun q => q.1).map fun q => q.2) = hoursL l m := by
  have e : ((List.range m).map fun (i : Nat) => litAt l (i : Nat)).zipIdx = (List.range m).map fun i => (litAt l (i : Nat), i) := by
    apply List.ext_getElem?
    intro i
    rw [Fw.zipIdx_get, List.getElem?_map, List.getElem?_map]
    by_cases h : i < m
    · rw [List.getElem?_range h]; rfl
    · rw [List.getElem?_eq_none (by rw [List.length_range]; omega)]; rfl
  rw [e, List.filter_map, List.map_map]
  unfold hoursL
  exact List.map_id' _
section
variable {P : Program} {w : World} {K : PySem.W.Frag} {mg : Str → Option Value} {base : Heap} {CB fI : Addr} {f : Addr} {fd fdI : FuncData} {k : Nat}
def F_dark : DSpec := fun ds Qd Qe => ∃ v, ds = [v] ∧ LS v Qe fun l => ∀ h s, DarkR l 0 (cyc l) h s → Qd (.tuple [.int h, .int s])
theorem ok_dark (cr : Cal P w K mg base CB 5 "lit_row" 1 F_lit_row) (N : Nm mg) (Fd : FnP K "dark" s_dark f fd) : FnOk P w K mg base (L2.CX P w) 6 f fd ["lamps"] (spP K CB 1 F_dark) :=
  def_ok Fd sc_dark rfl fun cdv A outer s H0 O0 E ds Qd Qe hl hF B => by
    obtain ⟨v, rfl, hbad, hgood⟩ := hF
    refine ws_cons (w1_setN 1 (gn_callE B.pass cr B.room (ga_cons (ge_var 0) ga_nil) rfl (Qd := fun d => ∃ l, v = encL l ∧ OkL l ∧ d = .list ((litRow l).map .bool)) (Qe := Qe) ⟨v, rfl, hbad, fun l e ok => ⟨l, e, ok, rfl⟩⟩ B.exc) ?_ sc_dark.nd)
    rintro _ ⟨l, rfl, ok, rfl⟩
    have hgd := hgood l rfl ok
    obtain ⟨c1, c2, _, _⟩ := cyc_spec ok.okP
    refine ws_cons (w1_p3 2 3 4 (gp_d (ge_cast (ge_lenL N.n_len (gs_ge (ge_var 1))) (by rw [litRow_len ok])) (gp_d (ge_tup (ga_cons ge_int (ga_cons ge_int ga_nil))) (gp_d ge_int gp_nil))) ?_ rfl sc_dark.nd)
    refine ws_cons (w1_forW (fun i Γ => ∃ here bh bs, DI l (cyc l) (2 * cyc l - (i : Nat)) here bh bs ∧ Γ = [.dat (encL l), .dat (.list ((litRow l).map .bool)), .dat (.int (cyc l)), .dat (.tuple [.int bh, .int bs]), .dat (.int here), .any]) B.own rfl
      (gi_rangeD N.n_range (ge_sub (ge_mul ge_int (ge_var 2) (.inr ⟨by omega, by omega⟩)) ge_int) (ge_neg ge_int) (ge_neg ge_int) (by omega) (by omega) (by omega) (by omega) rfl (pi_range3 rfl N.n_range (pa_cons pe_can (pa_cons pe_can (pa_cons pe_can pa_nil)))) rfl) ⟨0, 0, 0, ⟨Int.le_refl 0, fun u h1 h2 => by omega, .inr (by omega), .inl ⟨by omega, rfl, rfl⟩⟩, rfl⟩ ?_ ?_)
    · rintro i d Γ1 hd ⟨here, bh, bs, D, rfl⟩
      obtain ⟨hi, rfl⟩ := rngC_get hd
      have eh : 2 * cyc l - 1 + (i : Nat) * (-1) = 2 * cyc l - (i : Nat) - 1 := by omega
      rw [eh]
      refine ⟨_, _, gg_name 5 sc_dark.nd, ?_⟩
      obtain ⟨s1, s2⟩ := dark_step ok rfl (q := 2 * cyc l - (i : Nat)) (by omega) (by omega) D rfl
      refine ws_cons (w1_set 4 (ge_iteI (gt_val (ge_ixF (ge_var 1) (ge_mod (ge_var 5) (ge_var 2) c1) (litRow_at ok _))) (fun _ => ge_int) (fun _ => ge_add (ge_var 4) ge_int)) ?_ sc_dark.nd)
      have ei : 2 * cyc l - ((i + 1 : Nat) : Int) = 2 * cyc l - (i : Nat) - 1 := by omega
      refine ws_one (w1_if (gt_w (gw_and (gt_lt (ge_var 5) (ge_var 2)) fun _ => gw_and1 (gt_ge (ge_var 4) (ge_ixT (ge_var 3) ge_int (atI_nat (j := 1) rfl))))) (fun hb => ?_) fun hb => ws_nil ?_)
      · refine ws_one (w1_set 3 (ge_tup (ga_cons (ge_var 5) (ga_cons (ge_var 4) ga_nil))) ?_ sc_dark.nd)
        exact ⟨_, wk_any 5, _, _, _, by rw [ei]; exact s1 hb, rfl⟩
      · exact ⟨_, wk_any 5, _, _, _, by rw [ei]; exact s2 hb, rfl⟩
    · rintro Γ' ⟨here, bh, bs, D, rfl⟩
      rw [rngC_len] at D
      have e : 2 * cyc l - (((2 * cyc l - 1 - -1).toNat : Nat) : Int) = 0 := by omega
      rw [e] at D
      refine ws_one (w1_ret (ge_var 3) (hgd bh bs ?_))
      rcases D.2.2.2 with ⟨z, _⟩ | ⟨_, z⟩
      · omega
      · exact z
def F_next_lit : DSpec := fun ds Qd Qe => ∃ v h, ds = [v, h] ∧ LS v Qe fun l => CS h "hour" Qe fun i => ∀ r, NextR l i r → Qd (.int r)
theorem ok_next_lit (N : Nm mg) (ce : Cal P w K mg base CB 3 "expect" 2 F_expect) (ca : Cal P w K mg base CB 3 "are_lamps" 1 F_are_lamps) (cc : Cal P w K mg base CB 3 "is_count" 3 F_is_count) (Fd : FnP K "next_lit" s_next_lit f fd) : FnOk P w K mg base (L2.CX P w) 4 f fd ["lamps", "hour"] (spP K CB 2 F_next_lit) :=
  def_ok Fd sc_next_lit rfl fun cdv A outer s H0 O0 E ds Qd Qe hl hF B => by
    obtain ⟨v, h, rfl, hbad, hgood⟩ := hF
    refine ws_cons (w1_expect B ce (ge_gn (gn_call ca B.room (ga_cons (ge_var 0) ga_nil) rfl ⟨v, rfl, rfl⟩)) (fun z => ?_) fun z => hbad z)
    obtain ⟨l, rfl, ok⟩ := areLamps_iff.mp z
    obtain ⟨hb2, hg2⟩ := hgood l rfl ok
    refine ws_cons (w1_expect B ce (ge_gn (gn_call cc B.room (ga_cons (ge_var 1) (ga_cons ge_int (ga_cons (ge_glI N.i_MOST_HOUR) ga_nil))) rfl ⟨_, _, _, rfl, rfl⟩)) (fun z => ?_) fun z => hb2 z)
    obtain ⟨i, rfl, i0, i1⟩ := isCount_iff z
    refine ws_one (w1_ret (ge_minL (ns := l.map fun p => i + (p.2 - i) % p.1) N.n_min rfl (gs_gl (gl_mapI (xs := l) [("period", 2), ("first", 3)] rfl sc_next_lit.nd (gi_tup (ge_var 0)) (by have := ok.2.1; omega) (fun p hp s H Cc cl' fp => gg_tup rfl (ggs_cons (gg_name 2 sc_next_lit.nd) (ggs_cons (gg_name 3 sc_next_lit.nd) ggs_nil))) (fun p hp s H Cc cl' fp => ge_add (ge_var 1) (ge_mod (ge_sub (ge_var 3) (ge_var 1)) (ge_var 2) (by have := (ok.okP p hp).1; omega))))) fun h => ?_) (hg2 i rfl i0 i1 _ (next_ok ok i)))
    rw [List.map_eq_nil_iff] at h
    have := ok.1
    rw [h] at this
    simp at this
def F_lit_hours : DSpec := fun ds Qd Qe => ∃ v h, ds = [v, h] ∧ LS v Qe fun l => CS h "until" Qe fun i => Qd (.int (cntN l i.toNat : Nat))
theorem ok_lit_hours (N : Nm mg) (ce : Cal P w K mg base CB 5 "expect" 2 F_expect) (ca : Cal P w K mg base CB 5 "are_lamps" 1 F_are_lamps) (cc : Cal P w K mg base CB 5 "is_count" 3 F_is_count) (cr : Cal P w K mg base CB 5 "lit_row" 1 F_lit_row) (Fd : FnP K "lit_hours" s_lit_hours f fd) : FnOk P w K mg base (L2.CX P w) 6 f fd ["lamps", "until"] (spP K CB 2 F_lit_hours) :=
  def_ok Fd sc_lit_hours rfl fun cdv A outer s H0 O0 E ds Qd Qe hl hF B => by
    obtain ⟨v, h, rfl, hbad, hgood⟩ := hF
    refine ws_cons (w1_expect B ce (ge_gn (gn_call ca B.room (ga_cons (ge_var 0) ga_nil) rfl ⟨v, rfl, rfl⟩)) (fun z => ?_) fun z => hbad z)
    obtain ⟨l, rfl, ok⟩ := areLamps_iff.mp z
    obtain ⟨hb2, hg2⟩ := hgood l rfl ok
    refine ws_cons (w1_expect B ce (ge_gn (gn_call cc B.room (ga_cons (ge_var 1) (ga_cons ge_int (ga_cons (ge_glI N.i_MOST_HOUR) ga_nil))) rfl ⟨_, _, _, rfl, rfl⟩)) (fun z => ?_) fun z => hb2 z)
    obtain ⟨i, rfl, i0, i1⟩ := isCount_iff z
    obtain ⟨c1, c2, _, _⟩ := cyc_spec ok.okP
    refine ws_cons (w1_set 2 (ge_gn (gn_call cr B.room (ga_cons (ge_var 0) ga_nil) rfl ⟨_, rfl, LS.mk ok rfl⟩)) ?_ sc_lit_hours.nd)
    refine ws_cons (w1_par 3 4 (gp_d (ge_fdiv (ge_var 1) (ge_cast (ge_lenL N.n_len (gs_ge (ge_var 2))) (by rw [litRow_len ok])) ⟨c1, by omega⟩) (gp_d (ge_mod (ge_var 1) (ge_cast (ge_lenL N.n_len (gs_ge (ge_var 2))) (by rw [litRow_len ok])) c1) gp_nil)) ?_ rfl sc_lit_hours.nd)
    have r0 := Int.emod_nonneg i (Int.ne_of_gt c1)
    have r1 := Int.emod_lt_of_pos i c1
    have q0 := Int.ediv_nonneg i0 (Int.le_of_lt c1)
    have q1 : i / cyc l ≤ i := Int.ediv_le_self (cyc l) i0
    have lr : (litRow l).length ≤ 1000000 := by
      unfold litRow
      rw [List.length_map, List.length_range]
      omega
    have own : ∀ xs : List Bool, xs.length ≤ 1000000 → True := fun _ _ => trivial
    refine ws_one (w1_ret (ge_add (ge_mul (ge_var 3) (ge_sum (ns := ((litRow l).filter fun b => b).map fun _ => (1 : Int)) N.n_sum rfl (gs_gl (gl_filI (xs := litRow l) [("own", 5)] rfl sc_lit_hours.nd (gi_list (ge_var 2)) lr (fun x hx s H Cc cl' fp => gg_name 5 sc_lit_hours.nd) (fun x hx s H Cc cl' fp => gt_val (ge_var 5)) (fun x hx hp s H Cc cl' fp => ge_int)))) (.inl ⟨by omega, by omega⟩))
      (ge_sum (ns := (((litRow l).take (i % cyc l).toNat).filter fun b => b).map fun _ => (1 : Int)) N.n_sum rfl (gs_gl (gl_filI (xs := (litRow l).take (i % cyc l).toNat) [("own", 5)] rfl sc_lit_hours.nd (gi_list (ge_cast (ge_gl (gl_slice (ge_var 2) go_none (go_some (ge_var 4)))) (by rw [cut_to r0, ← List.map_take]))) (by rw [List.length_take]; omega) (fun x hx s H Cc cl' fp => gg_name 5 sc_lit_hours.nd) (fun x hx s H Cc cl' fp => gt_val (ge_var 5)) (fun x hx hp s H Cc cl' fp => ge_int))))) ?_)
    have e : Qd (.int (cntN l i.toNat : Nat)) := hg2 i rfl i0 i1
    have ei : i.toNat = (i / cyc l).toNat * (cyc l).toNat + (i % cyc l).toNat := by
      have h1 := Int.mul_ediv_add_emod i (cyc l)
      have h2 : (((i / cyc l).toNat * (cyc l).toNat + (i % cyc l).toNat : Nat) : Int) = i := by
        push_cast
        rw [Int.toNat_of_nonneg q0, Int.toNat_of_nonneg (Int.le_of_lt c1), Int.toNat_of_nonneg r0, Int.mul_comm]
        exact h1
      omega
    rw [ei, cntN_add ok.okP (cyc l).toNat (by omega)] at e
    rw [sum_ones, sum_ones]
    have a1 : ((litRow l).filter fun b => b).length = cntN l (cyc l).toNat := by
      have := row_take l (Nat.le_refl (cyc l).toNat)
      rw [List.take_of_length_le (by rw [List.length_map, List.length_range]; exact Nat.le_refl _)] at this
      unfold litRow
      rw [this, List.length_map, hoursL_len]
    have a2 : (((litRow l).take (i % cyc l).toNat).filter fun b => b).length = cntN l (i % cyc l).toNat := by
      have := row_take l (show (i % cyc l).toNat ≤ (cyc l).toNat by omega)
      unfold litRow
      rw [this, List.length_map, hoursL_len]
    rw [a1, a2]
    push_cast at e
    rw [Int.toNat_of_nonneg q0] at e
    exact e
def LitN (l : List (Int × Int)) (n r : Int) : Prop := 0 ≤ r ∧ litAt l r = true ∧ (cntN l r.toNat : Int) = n
def F_lit_at : DSpec := fun ds Qd Qe => ∃ v h, ds = [v, h] ∧ LS v Qe fun l => CS h "number" Qe fun n => ∀ r, LitN l n r → Qd (.int r)
theorem ok_lit_at (N : Nm mg) (ce : Cal P w K mg base CB 5 "expect" 2 F_expect) (ca : Cal P w K mg base CB 5 "are_lamps" 1 F_are_lamps) (cc : Cal P w K mg base CB 5 "is_count" 3 F_is_count) (cr : Cal P w K mg base CB 5 "lit_row" 1 F_lit_row) (cy : Cal P w K mg base CB 5 "cycle" 1 F_cycle) (Fd : FnP K "lit_at" s_lit_at f fd) : FnOk P w K mg base (L2.CX P w) 6 f fd ["lamps", "number"] (spP K CB 2 F_lit_at) :=
  def_ok Fd sc_lit_at rfl fun cdv A outer s H0 O0 E ds Qd Qe hl hF B => by
    obtain ⟨v, h, rfl, hbad, hgood⟩ := hF
    refine ws_cons (w1_expect B ce (ge_gn (gn_call ca B.room (ga_cons (ge_var 0) ga_nil) rfl ⟨v, rfl, rfl⟩)) (fun z => ?_) fun z => hbad z)
    obtain ⟨l, rfl, ok⟩ := areLamps_iff.mp z
    obtain ⟨hb2, hg2⟩ := hgood l rfl ok
    refine ws_cons (w1_expect B ce (ge_gn (gn_call cc B.room (ga_cons (ge_var 1) (ga_cons ge_int (ga_cons (ge_glI N.i_MOST_HOUR) ga_nil))) rfl ⟨_, _, _, rfl, rfl⟩)) (fun z => ?_) fun z => hb2 z)
    obtain ⟨i, rfl, i0, i1⟩ := isCount_iff z
    obtain ⟨c1, c2, _, _⟩ := cyc_spec ok.okP
    refine ws_cons (w1_setF 2 (xs := (litRow l).zipIdx) (p := fun q => q.1) (g := fun q => .int (q.2 : Nat)) [("hour", 3), ("own", 4)] rfl sc_lit_at.nd (gi_enumL N.n_enumerate (ge_gn (gn_call cr B.room (ga_cons (ge_var 0) ga_nil) rfl ⟨_, rfl, LS.mk ok rfl⟩))) (by
        unfold litRow
        rw [List.length_zipIdx, List.length_map, List.length_range]
        omega) (fun x hx s H Cc cl' fp => gg_tup rfl (ggs_cons (gg_name 3 sc_lit_at.nd) (ggs_cons (gg_name 4 sc_lit_at.nd) ggs_nil))) (fun x hx s H Cc cl' fp => gt_val (ge_var 4)) (fun x hx hp s H Cc cl' fp => ge_var 3) ?_)
    have eL : ((litRow l).zipIdx.filter fun q => q.1).map (fun q => PyData.int (q.2 : Nat)) = (hoursL l (cyc l).toNat).map fun h => PyData.int ((h : Nat) : Int) := by
      rw [← row_zip l (cyc l).toNat, List.map_map]
      rfl
    rw [eL]
    have hlen : ((hoursL l (cyc l).toNat).map fun h => PyData.int ((h : Nat) : Int)).length = cntN l (cyc l).toNat := by
      rw [List.length_map, hoursL_len]
    have hpos := cnt_pos ok
    have hle : cntN l (cyc l).toNat ≤ 27720 := by
      have := List.length_filter_le (fun i => litAt l ((i : Nat) : Int)) (List.range (cyc l).toNat)
      rw [cntN_filter, List.length_range] at this
      omega
    have r0 := Int.emod_nonneg i (show (cntN l (cyc l).toNat : Int) ≠ 0 by omega)
    have r1 := Int.emod_lt_of_pos i (show (0 : Int) < (cntN l (cyc l).toNat : Int) by omega)
    have q0 := Int.ediv_nonneg i0 (show (0 : Int) ≤ (cntN l (cyc l).toNat : Int) by omega)
    have q1 : i / (cntN l (cyc l).toNat : Int) ≤ i := Int.ediv_le_self _ i0
    obtain ⟨x, hx⟩ : ∃ x, (hoursL l (cyc l).toNat)[(i % (cntN l (cyc l).toNat : Int)).toNat]? = some x := ⟨_, List.getElem?_eq_getElem (by rw [hoursL_len]; omega)⟩
    obtain ⟨x1, x2, x3⟩ := hoursL_get l _ _ _ hx
    refine ws_one (w1_ret (ge_add (ge_mul (ge_fdiv (ge_var 1) (ge_cast (ge_lenL N.n_len (gs_own 2)) (by rw [hlen])) ⟨by omega, by omega⟩) (ge_gn (gn_call cy B.room (ga_cons (ge_var 0) ga_nil) rfl ⟨_, rfl, LS.mk ok rfl⟩)) (.inr ⟨by omega, by omega⟩)) (ge_ixO 2 rfl (ge_mod (ge_var 1) (ge_cast (ge_lenL N.n_len (gs_own 2)) (by rw [hlen])) (by omega)) (atI_map (f := fun h : Nat => PyData.int ((h : Nat) : Int)) (atI_of r0 hx)))) ?_)
    refine hg2 i rfl i0 i1 _ ?_
    have mm := Int.mul_nonneg q0 (Int.le_of_lt c1)
    refine ⟨by omega, ?_, ?_⟩
    · rw [litAt_per ok.okP (t := (x : Nat)) ⟨i / (cntN l (cyc l).toNat : Int), by rw [Int.mul_comm]; omega⟩]
      exact x1
    · have e : (i / (cntN l (cyc l).toNat : Int) * cyc l + (x : Nat)).toNat = (i / (cntN l (cyc l).toNat : Int)).toNat * (cyc l).toNat + x := by
        have h2 : (((i / (cntN l (cyc l).toNat : Int)).toNat * (cyc l).toNat + x : Nat) : Int) = i / (cntN l (cyc l).toNat : Int) * cyc l + (x : Nat) := by
          push_cast
          rw [Int.toNat_of_nonneg q0, Int.toNat_of_nonneg (Int.le_of_lt c1)]
        omega
      rw [e, cntN_add ok.okP (cyc l).toNat (by omega), x3]
      push_cast
      rw [Int.toNat_of_nonneg q0, Int.toNat_of_nonneg r0, Int.mul_comm]
      exact Int.mul_ediv_add_emod i _
end

end K06
namespace K06
open PySem PySem.Spec PyProof.Rows L2 Fw
section
variable {P : Program} {w : World} {K : PySem.W.Frag} {mg : Str → Option Value} {base : Heap} {CB fI : Addr} {f : Addr} {fd fdI : FuncData} {k : Nat} {T : List (Addr × Str)}
theorem ok_taken (N : Nm mg) (Fd : FnP K "_law_taken" s_law_taken f fd) : FnOk P w K mg base (L2.CX P w) 1 f fd ["row", "many"] (spR K T 1 F_taken) := by
  refine Fd.ok sc_law_taken (fun vs H Q E h => ?_) fun cdv A outer s H vs Q E hr h => ?_
  · obtain ⟨R, O, ws, ds, Qd, _, h1, _, _, h2, h3, _⟩ := h
    rw [h1, List.length_cons, dpAll_len h3, h2]
    rfl
  obtain ⟨R, O, ws, ds, Qd, hT, rfl, hO, hO2, hl, r, ⟨m, rfl, m0, m1, hq⟩, hI, q⟩ := h
  obtain ⟨v, rfl⟩ : ∃ v, ws = [v] := by
    have := dpAll_len r
    match ws, this with
    | [v], _ => exact ⟨v, rfl⟩
  have hv : v = .int m := by
    cases r with
    | cons h _ => exact dp_int h
  subst hv
  obtain ⟨i, s0, c, hrow, i0, s1, s2, c0⟩ := hI.row
  have hS := hI.scr.sq
  -- the end: row changed within its bounds
  have fin : ∀ (r i' s' c' : Int) (H' : Hp), 0 ≤ r → r < m → 0 ≤ i' → 0 ≤ s' → s' < 2147483647 → 0 ≤ c' → (∀ b, b ≠ R.row → H' b = H b) → H' R.row = some (.lst [.ref R.scr, .int i', .int s', .int c']) → Q (.int r) H' := by
    intro r i' s' c' H' r0 r1 g1 g2 g3 g4 same hrow'
    have ex : ∀ b o, H b = some o → b ≠ R.row → H' b = some o := fun b o e n => by rw [same b n]; exact e
    refine q (.int r) (hq r r0 r1) _ H' (fun b o e n => ex b o e fun z => n (.inl z)) (fun b e => ?_) ⟨⟨i', s', c', hrow', g1, g2, g3, g4⟩, ?_, ?_, hI.old⟩ (.int r)
    · by_cases z : b = R.row
      · rw [z]; exact ⟨_, hrow', trivial⟩
      · obtain ⟨o, e1, n1⟩ := e
        exact ⟨o, ex b o e1 z, n1⟩
    · rcases hI.scr with ⟨a1, a2⟩ | a
      · by_cases z : R.scr = R.row
        · rcases a2 with (y | ⟨o, y⟩) | y
          · rw [z, hrow] at y
            have y1 := Option.some.inj y
            injection y1 with y1
            cases hns : R.ns with
            | nil => rw [hns] at y1; cases y1
            | cons n ns =>
              rw [hns] at y1
              have := (List.cons.inj y1).1
              cases this
          · rw [z, hrow] at y
            cases y
          · exact .inr (.inr y)
        · exact .inl ⟨a1, sqL_of a2 fun o e => ex _ o e z⟩
      · exact .inr a
    · refine tabs_of hI.tab fun b o fx e => ex b o e fun z => ?_
      rw [z, hrow] at e
      cases e
      exact fx
  have sqr : ∀ (H' : Hp) (xs : List V), H' R.row = some (.lst xs) → SqL K H' R.row xs := fun H' xs e => .inl (.inl e)
  have scr' : ∀ (H' : Hp), (∀ b, b ≠ R.row → H' b = H b) → H' R.row ≠ none → (R.scr = R.row → False) ∨ SqL K (fun _ => none) R.scr (R.ns.map V.int) := fun H' same e => by
    by_cases z : R.scr = R.row
    · right
      rcases hS with (y | ⟨o, y⟩) | y
      · rw [z, hrow] at y
        have y1 := Option.some.inj y
        injection y1 with y1
        cases hns : R.ns with
        | nil => rw [hns] at y1; cases y1
        | cons n ns =>
          rw [hns] at y1
          have := (List.cons.inj y1).1
          cases this
      · rw [z, hrow] at y
        cases y
      · exact .inr y
    · exact .inl z
  have scrOk : ∀ (H' : Hp), (∀ b, b ≠ R.row → H' b = H b) → H' R.row ≠ none → SqL K H' R.scr (R.ns.map V.int) := fun H' same e => by
    rcases scr' H' same e with z | z
    · exact sqL_of hS fun o y => by rw [same _ fun y => z y]; exact y
    · exact sqL_of z fun o y => by cases y
  have mm : CDiv 0 m := ⟨m0, m1⟩
  refine ⟨_, pss_can, ?_⟩
  show SX _ _ _ _ _
  have ev3 : ∀ {X : Cx} {σ : L2.St} {H' : Hp} {a b c d : V} {p1 p2 p3 : Pos} {j} (_ : X.K = K) (_ : σ[0]? = some (some (.ref R.row))) (_ : H' R.row = some (.lst [a, b, c, d])) (hN : X.N[0]? = some ("row" : Str)) (hv : Vis X.env.scope "row"), EV X (.Subscript (.Name "row" p1) (.Constant (.int 3) j p2) p3) σ H' d := fun eK e1 e2 hN hv => ev_ix (ev_var 0 e1 hN hv) (by rw [eK]; exact sqr _ _ e2) ev_int (atI_nat (j := 3) rfl)
  have ev2 : ∀ {X : Cx} {σ : L2.St} {H' : Hp} {a b c d : V} {p1 p2 p3 : Pos} {j} (_ : X.K = K) (_ : σ[0]? = some (some (.ref R.row))) (_ : H' R.row = some (.lst [a, b, c, d])) (hN : X.N[0]? = some ("row" : Str)) (hv : Vis X.env.scope "row"), EV X (.Subscript (.Name "row" p1) (.Constant (.int 2) j p2) p3) σ H' c := fun eK e1 e2 hN hv => ev_ix (ev_var 0 e1 hN hv) (by rw [eK]; exact sqr _ _ e2) ev_int (atI_nat (j := 2) rfl)
  have ev1 : ∀ {X : Cx} {σ : L2.St} {H' : Hp} {a b c d : V} {p1 p2 p3 : Pos} {j} (_ : X.K = K) (_ : σ[0]? = some (some (.ref R.row))) (_ : H' R.row = some (.lst [a, b, c, d])) (hN : X.N[0]? = some ("row" : Str)) (hv : Vis X.env.scope "row"), EV X (.Subscript (.Name "row" p1) (.Constant (.int 1) j p2) p3) σ H' b := fun eK e1 e2 hN hv => ev_ix (ev_var 0 e1 hN hv) (by rw [eK]; exact sqr _ _ e2) ev_int (atI_nat (j := 1) rfl)
  have ev0 : ∀ {X : Cx} {σ : L2.St} {H' : Hp} {a b c d : V} {p1 p2 p3 : Pos} {j} (_ : X.K = K) (_ : σ[0]? = some (some (.ref R.row))) (_ : H' R.row = some (.lst [a, b, c, d])) (hN : X.N[0]? = some ("row" : Str)) (hv : Vis X.env.scope "row"), EV X (.Subscript (.Name "row" p1) (.Constant (.int 0) j p2) p3) σ H' a := fun eK e1 e2 hN hv => ev_ix (ev_var 0 e1 hN hv) (by rw [eK]; exact sqr _ _ e2) ev_int (atI_nat (j := 0) rfl)
  refine sx_if (tv_cmp op_gt (ev3 rfl rfl hrow rfl (.inl rfl)) ev_int) (fun hc => ?_) fun hc => sx_nil ?_
  · refine sx_set 2 (ev_opI op_mod (ev_int1 N.n_int (ev3 rfl rfl hrow rfl (.inl rfl))) (ev_var 1 rfl) m0) sc_law_taken.nd ?_
    refine sx_setIx 0 rfl hrow (ev_opI op_fdiv (ev3 rfl rfl hrow rfl (.inl rfl)) (ev_var 1 rfl) ⟨m0, m1⟩) ev_int (j := 3) rfl ?_
    exact sx_ret (ev_var 2 rfl) (fin _ i s0 (c / m) _ (Int.emod_nonneg _ (by omega)) (Int.emod_lt_of_pos _ m0) i0 s1 s2 (Int.ediv_nonneg c0 (by omega)) (fun b n => upd_ne n) upd_same)
  · have u1 : (upd H R.row (.lst ([V.ref R.scr, .int i, .int s0, .int c].set 1 (.int (i + 1))))) R.row = some (.lst [V.ref R.scr, .int (i + 1), .int s0, .int c]) := upd_same
    refine sx_setIx 0 rfl hrow (ev_op0 op_add (ev1 rfl rfl hrow rfl (.inl rfl)) ev_int) ev_int (j := 1) rfl ?_
    generalize hG : upd H R.row (.lst ([V.ref R.scr, .int i, .int s0, .int c].set 1 (.int (i + 1)))) = G at u1
    have sG : ∀ b, b ≠ R.row → G b = H b := fun b n => by rw [← hG]; exact upd_ne n
    have scG := scrOk G sG (by rw [u1]; exact fun y => by cases y)
    refine sx_if (tv_cmp op_gt (ev1 rfl rfl u1 rfl (.inl rfl)) (ev_lenL N.n_len (ev0 rfl rfl u1 rfl (.inl rfl)) scG)) (fun hc2 => ?_) fun hc2 => sx_nil ?_
    · refine sx_setIx 0 rfl u1 (ev_opI op_mod (ev_int1 N.n_int (ev_op0 op_add (ev_opI op_mul (ev2 rfl rfl u1 rfl (.inl rfl)) ev_int (.inr ⟨by decide, by decide⟩)) ev_int)) ev_int (by decide)) ev_int (j := 2) rfl ?_
      refine sx_ret (ev_opI op_mod (ev_int1 N.n_int (ev_opI op_fdiv (ev2 rfl rfl upd_same rfl (.inl rfl)) ev_int ⟨by decide, by decide⟩)) (ev_var 1 rfl) m0) ?_
      exact fin _ (i + 1) _ c _ (Int.emod_nonneg _ (by omega)) (Int.emod_lt_of_pos _ m0) (by omega) (Int.emod_nonneg _ (by decide)) (Int.emod_lt_of_pos _ (by decide)) c0 (fun b n => by rw [upd_ne n]; exact sG b n) upd_same
    · have hle : (i + 1 : Int) ≤ (R.ns.map V.int).length := by
        have := of_decide_eq_false hc2
        omega
      rw [List.length_map] at hle
      obtain ⟨cell, hcell⟩ : ∃ cell, R.ns[i.toNat]? = some cell := ⟨_, List.getElem?_eq_getElem (by omega)⟩
      refine sx_set 3 (ev_ix (ev0 rfl rfl u1 rfl (.inl rfl)) scG (ev_op0 op_sub (ev1 rfl rfl u1 rfl (.inl rfl)) ev_int) (atI_map (f := V.int) (v := cell) (atI_of (by omega) (by rw [show i + 1 - 1 = i by omega]; exact hcell)))) sc_law_taken.nd ?_
      refine sx_setIx 0 rfl u1 (ev_opI op_mod (ev_int1 N.n_int (ev_op0 op_add (ev_op0 op_add (ev_opI op_mul (ev2 rfl rfl u1 rfl (.inl rfl)) ev_int (.inr ⟨by decide, by decide⟩)) (ev_int1 N.n_int (ev_var 3 rfl))) ev_int)) ev_int (by decide)) ev_int (j := 2) rfl ?_
      generalize hs' : (s0 * 48271 + cell + 11) % 2147483647 = s'
      have s'0 : 0 ≤ s' := by rw [← hs']; exact Int.emod_nonneg _ (by decide)
      have s'1 : s' < 2147483647 := by rw [← hs']; exact Int.emod_lt_of_pos _ (by decide)
      have u2 : (upd G R.row (.lst ([V.ref R.scr, .int (i + 1), .int s0, .int c].set 2 (.int s')))) R.row = some (.lst [V.ref R.scr, .int (i + 1), .int s', .int c]) := upd_same
      generalize hG2 : upd G R.row (.lst ([V.ref R.scr, .int (i + 1), .int s0, .int c].set 2 (.int s'))) = G2 at u2
      have sG2 : ∀ b, b ≠ R.row → G2 b = H b := fun b n => by rw [← hG2, upd_ne n]; exact sG b n
      refine sx_if (tv_cmp op_ge (ev_var 3 rfl) (ev_opI op_pow ev_int ev_int ⟨by decide, by decide, by decide⟩)) (fun hc3 => ?_) fun hc3 => sx_nil ?_
      · refine sx_setIx 0 rfl u2 (ev_opI op_fdiv (ev_int1 N.n_int (ev_opI op_mod (ev_int1 N.n_int (ev_var 3 rfl)) (ev_opI op_pow ev_int ev_int ⟨by decide, by decide, by decide⟩) (by decide))) (ev_var 1 rfl) ⟨m0, m1⟩) ev_int (j := 3) rfl ?_
        refine sx_nil ?_
        refine sx_ret (ev_opI op_mod (ev_int1 N.n_int (ev_var 3 rfl)) (ev_var 1 rfl) m0) ?_
        exact fin _ (i + 1) s' _ _ (Int.emod_nonneg _ (by omega)) (Int.emod_lt_of_pos _ m0) (by omega) s'0 s'1 (Int.ediv_nonneg (Int.emod_nonneg _ (by decide)) (by omega)) (fun b n => by rw [upd_ne n]; exact sG2 b n) upd_same
      · refine sx_ret (ev_opI op_mod (ev_int1 N.n_int (ev_var 3 rfl)) (ev_var 1 rfl) m0) ?_
        exact fin _ (i + 1) s' c _ (Int.emod_nonneg _ (by omega)) (Int.emod_lt_of_pos _ m0) (by omega) s'0 s'1 c0 sG2 u2
end

end K06
namespace K06
open PySem PySem.Spec PyProof.Rows L2 Fw
section
variable {P : Program} {w : World} {K : PySem.W.Frag} {mg : Str → Option Value} {base : Heap} {CB fI : Addr} {f : Addr} {fd fdI : FuncData} {k : Nat} {T : List (Addr × Str)}
theorem ok_pick (N : Nm mg) (ct : CalR P w K mg base T 1 "_law_taken" 1 F_taken) (Fd : FnP K "_law_pick" s_law_pick f fd) : FnOk P w K mg base (L2.CX P w) 2 f fd ["row", "some"] (spR K T 1 F_pick) :=
  def_okR Fd sc_law_pick rfl rfl fun cdv A outer s R C H0 E ds Qd hT IR hl hF B => by
    obtain ⟨xs, rfl, hne, hle, hq⟩ := hF
    have l0 : 0 < xs.length := List.length_pos_iff.mpr hne
    refine ws_one (w1_retN (gn_ixF (P := Qd) (ge_var 1) (gni_taken IR hT ct B.room 0 (gni_ge (P := fun m => m = (xs.length : Int)) (ge_lenL N.n_len (gs_ge (ge_var 1))) rfl) (Pr := fun r => 0 ≤ r ∧ r < (xs.length : Int)) (fun m hm => by subst hm; exact ⟨by omega, by omega, fun r r0 r1 => ⟨r0, r1⟩⟩)) fun i hi => ?_) fun d hd => hd)
    obtain ⟨d, hd⟩ : ∃ d, xs[i.toNat]? = some d := ⟨_, List.getElem?_eq_getElem (by omega)⟩
    exact ⟨d, atI_of hi.1 hd, hq d (List.mem_of_getElem? hd)⟩
theorem alike_step (N : Nm mg) (Fd : FnP K "_law_alike" s_law_alike f fd) (n : Nat) (rec : ∀ m, n = m + 1 → Cal P w K mg base CB n "_law_alike" 2 (F_alike m)) : FnOk P w K mg base (L2.CX P w) (n + 1) f fd ["found", "due"] (spP K CB 2 (F_alike n)) :=
  def_ok Fd sc_law_alike rfl fun cdv A outer s H0 O0 E ds Qd Qe hl hF B => by
    obtain ⟨d, rfl, hs, hq⟩ := hF
    refine ws_cons (w1_if (gt_val (ge_isTup N.n_isinstance N.n_tuple (gr_ge (ge_var 1)))) (fun hz => ?_) fun hz => ws_nil ?_)
    · cases d <;> simp [isTupD] at hz
      rename_i xs
      cases n with
      | zero => cases hs
      | succ n =>
        have ca := rec n rfl
        unfold simpD at hs
        rw [Bool.and_eq_true, decide_eq_true_eq, List.all_eq_true] at hs
        refine ws_cons (w1_if (z := false) (gt_cast (gt_w (gw_or (gt_not (gt_val (ge_isTup N.n_isinstance N.n_tuple (gr_ge (ge_var 0))))) fun _ => gw_or1 (gt_neI (ge_lenT N.n_len (gr_ge (ge_var 0))) (ge_lenT N.n_len (gr_ge (ge_var 1)))))) (by simp [isTupD])) (fun h => by cases h) fun _ => ws_nil ?_)
        refine ws_one (w1_ret (d := .bool true) (ge_cast (ge_eqF B.room.units (ge_gl (gl_fil (xs := List.range xs.length) (p := fun _ => false) (g := fun i => PyData.int ((i : Nat) : Int)) [("at", 2)] rfl sc_law_alike.nd (gi_cast (gi_range1 N.n_range (ge_lenT N.n_len (gr_ge (ge_var 1))) (by omega) (by omega)) (rngD_0 _)) (by rw [List.length_range]; exact hs.1) (fun x hx s H Cc cl' fp => gg_name 2 sc_law_alike.nd) (fun x hx s H Cc cl' fp => ?_) (fun x hx h => by cases h))) (gr_ge (ge_gl (gl_lst ga_nil))) ?_ rfl) ?_) hq)
        · have hx' := List.mem_range.mp hx
          obtain ⟨y, hy⟩ : ∃ y, xs[x]? = some y := ⟨_, List.getElem?_eq_getElem hx'⟩
          exact gt_cast (gt_not (gt_val (ge_gn (gn_call ca B.room (ga_cons (ge_ixT (ge_var 0) (ge_var 2) (atI_nat hy)) (ga_cons (ge_ixT (ge_var 1) (ge_var 2) (atI_nat hy)) ga_nil)) rfl ⟨y, rfl, hs.2 y (List.mem_of_getElem? hy), rfl⟩)))) rfl
        · rw [List.filter_eq_nil_iff.mpr (fun _ _ => Bool.false_ne_true)]
          rfl
        · rw [List.filter_eq_nil_iff.mpr (fun _ _ => Bool.false_ne_true)]
          rfl
    · refine ws_cons (w1_if (gt_w (gw_or (gt_isN (gr_ge (ge_var 1))) fun h1 => gw_or1 (gt_val (ge_isStr N.n_isinstance N.n_str (gr_ge (ge_var 1)))))) (fun hy => ?_) fun hy => ws_nil ?_)
      · have hd : d = .none := by
          cases d with
          | none => rfl
          | str x => cases n <;> cases hs
          | _ => simp [isNone, isStrD] at hy
        subst hd
        have sh : SeqAt.shaped .none = true := rfl
        have ee : PyData.eqv .none .none = true := by first | rfl | simp [PyData.eqv]
        refine ws_one (w1_ret (d := .bool true) (ge_cast (ge_and (ge_eqF B.room.units (ge_var 0) (gr_ge (ge_var 1)) sh sh) fun _ => ge_one (ge_eqB (ge_isStr N.n_isinstance N.n_str (gr_ge (ge_var 0))) (ge_isStr N.n_isinstance N.n_str (gr_ge (ge_var 1))))) (by rw [ee]; simp)) hq)
      · cases d with
        | int i => exact ws_one (w1_ret (d := .bool true) (ge_cast (ge_and (ge_isInt N.n_isinstance N.n_int (gr_ge (ge_var 0))) fun _ => ge_and (ge_eqB (ge_isBool N.n_isinstance N.n_bool (gr_ge (ge_var 0))) (ge_isBool N.n_isinstance N.n_bool (gr_ge (ge_var 1)))) fun _ => ge_one (ge_eqI (ge_var 0) (ge_var 1))) (by simp [isIntD])) hq)
        | bool b => exact ws_one (w1_ret (d := .bool true) (ge_cast (ge_and (ge_isInt N.n_isinstance N.n_int (gr_ge (ge_var 0))) fun _ => ge_and (ge_eqB (ge_isBool N.n_isinstance N.n_bool (gr_ge (ge_var 0))) (ge_isBool N.n_isinstance N.n_bool (gr_ge (ge_var 1)))) fun _ => ge_one (ge_eqB (ge_var 0) (ge_var 1))) (by simp [isIntD])) hq)
        | tuple xs => simp [isTupD] at hz
        | none => simp [isNone] at hy
        | str x => simp [isNone, isStrD] at hy
        | _ => cases n <;> cases hs
theorem ok_alike (N : Nm mg) (Fd : FnP K "_law_alike" s_law_alike f fd) (hm : mg "_law_alike" = some (.ref f)) (hb : L2.Binds K fd ["found", "due"] []) (n : Nat) : FnOk P w K mg base (L2.CX P w) (n + 1) f fd ["found", "due"] (spP K CB 2 (F_alike n)) := by
  induction n with
  | zero => exact alike_step N Fd 0 fun m h => by cases h
  | succ n ih => exact alike_step N Fd (n + 1) fun m h => by cases h; exact ⟨f, fd, _, ih, hm, Fd.kp, hb⟩
def F_case : DSpec := fun ds Qd _ => ds = [] ∧ Qd (.bool true)
def spLaw (K : PySem.W.Frag) (T : List (Addr × Str)) : Sp := fun vs H Q _ => ∃ (a : Addr) (ns : List Int), vs = [.ref a] ∧ SqL K H a (ns.map V.int) ∧ LamX.Tabs T H ∧ ∀ H', Q (.bl true) H'
def ctL (T : List (Addr × Str)) (H0 : Hp) (E : XK) : Ct := ⟨H0, fun _ => False, fun _ o => ¬ NT o, LamX.Tabs T, E, fun _ _ n h => absurd n h, fun _ _ e h => tabs_of h fun a o f => e a o (.inr f)⟩
theorem ok_law (N : Nm mg) (cc : CalR P w K mg base T k "_law_case" 0 F_case) (Fd : FnP K "law" s_law f fd) : FnOk P w K mg base (L2.CX P w) (k + 1) f fd ["script"] (spLaw K T) :=
  Fd.ok sc_law (fun vs H Q E h => by obtain ⟨a, ns, rfl, _⟩ := h; rfl) fun cdv A outer s H vs Q E hr h => by
    obtain ⟨a, ns, rfl, hS, hT, q⟩ := h
    have tk : Takes (cxOf (L2.CX P w) P w K mg base ["script", "row", "turn"] "law" (defScope s_law) f cdv A outer s H E) (fun cls d _ H' => E cls d H') := takes_of rfl rfl rfl rfl
    have S0 : StOk K (ctL T H E) [.dat (.list (ns.map .int)), .any, .any] (L2.start ["script", "row", "turn"] [.ref a]) (List.replicate (L2.start ["script", "row", "turn"] [V.ref a]).length none) H := by
      refine start_gen rfl (fun _ z => z.elim) hT rfl fun i t e => ?_
      match i, e with
      | 0, e =>
        cases e
        refine ⟨_, rfl, rfl, _, rfl, Dp.lst ?_ (ints_dpAll ns)⟩
        rcases hS with (y | ⟨o, y⟩) | y
        · exact .inl (.inl (hid_is (fun z => z) y trivial))
        · exact .inl (.inr ⟨o, hid_is (fun z => z) y trivial⟩)
        · exact .inr y
      | 1, e => cases e; exact ⟨_, rfl, rfl⟩
      | 2, e => cases e; exact ⟨_, rfl, rfl⟩
      | n + 3, e => cases e
    refine ⟨_, pss_can, fun pins s' I => ?_⟩
    have key : WS (cxOf (L2.CX P w) P w K mg base ["script", "row", "turn"] "law" (defScope s_law) f cdv A outer s H E) (ctL T H E) [.dat (.list (ns.map .int)), .any, .any] (defBody s_law) ⟨fun _ => False, rtD K (ctL T H E) (fun d => d = .bool true), fun _ => False, fun _ => False⟩ := by
      refine ws_cons (w1_setL 1 (gl_lst (ga_cons (ge_var 0) (ga_cons ge_int (ga_cons ge_int (ga_cons ge_int ga_nil))))) ?_ sc_law.nd)
      refine ws_enterRow (i := 1) (K := K) (T := T) rfl rfl (by decide) (by decide) (fun _ h => h) (fun j u e => ?_) (fun _ _ n => n) (fun _ h => h) (fun _ => rfl) rfl (fun d h => by rw [h]; rfl) (fun _ z => z) (fun _ z => z) (fun _ z => z) fun R C' hRT IR eE => ?_
      · match j, e with
        | 0, e => cases e
        | 1, e => rfl
        | 2, e => cases e
        | n + 3, e => cases e
      · refine ws_cons (w1_forW (fun _ Γ => Γ = [.dat (.list (ns.map .int)), .raw (.ref R.row), .any]) (passes_of rfl) rfl (gi_range1 N.n_range ge_int (by decide) (by decide)) rfl ?_ ?_)
        · rintro i d Γ1 hd rfl
          refine ⟨_, _, gg_name 2 sc_law.nd, ?_⟩
          refine ws_one (w1_if (z := false) (gt_cast (gt_not (gt_val (ge_gn (gn_callR IR hRT cc hr 1 (gan_ga ga_nil) (fun es he => by rw [he]; exact ⟨rfl, rfl, rfl⟩))))) rfl) (fun h => by cases h) fun _ => ws_nil ?_)
          exact ⟨_, wk_any 2, rfl⟩
        · rintro Γ' rfl
          exact ws_one (w1_ret (P := fun d => d = .bool true) ge_bl rfl)
    refine wpAny_mono (key _ _ H S0 pins s' I) (fun fl s2 z => ?_) fun _ _ z => z
    cases fl with
    | next => obtain ⟨_, _, _, _, _, _, _, z⟩ := z; exact z.elim
    | brk => obtain ⟨_, _, _, _, _, _, _, z⟩ := z; exact z.elim
    | cont => obtain ⟨_, _, _, _, _, _, _, z⟩ := z; exact z.elim
    | ret u =>
      obtain ⟨v, σ', H', I', rv, en, d, hd, dv⟩ := z
      rw [hd] at dv
      rw [dp_bool dv] at rv
      exact ⟨.bl true, σ', H', I', rv, q H'⟩
end

end K06
namespace K06
open PySem PySem.Spec PyProof.Rows L2 Fw
section
variable {P : Program} {w : World} {K : PySem.W.Frag} {mg : Str → Option Value} {base : Heap} {CB fI : Addr} {f : Addr} {fd fdI : FuncData} {k : Nat} {T : List (Addr × Str)}
def F_law_lamps : DSpec := fun ds Qd _ => ds = [] ∧ ∀ l, OkL l → Qd (encL l)
def perD (l : List Int) : PyData := .list (l.map .int)
def perLs : List (List Int) := [[1, 2, 3, 4, 6], [2, 4, 6, 8], [2, 3, 5], [6, 8, 3, 4], [7, 5, 3]]
abbrev perDs : List PyData := [PyData.list [PyData.int 1, PyData.int 2, PyData.int 3, PyData.int 4, PyData.int 6], PyData.list [PyData.int 2, PyData.int 4, PyData.int 6, PyData.int 8], PyData.list [PyData.int 2, PyData.int 3, PyData.int 5], PyData.list [PyData.int 6, PyData.int 8, PyData.int 3, PyData.int 4], PyData.list [PyData.int 7, PyData.int 5, PyData.int 3]]
theorem perLs_ok : ∀ l ∈ perLs, l ≠ [] ∧ l.length ≤ 5 ∧ ∀ x ∈ l, 1 ≤ x ∧ x ≤ 12 := by decide
theorem perDs_ne : perDs ≠ [] := fun h => by cases h
theorem perDs_le : perDs.length ≤ 1000000 := by decide
theorem perDs_ok : ∀ d ∈ perDs, ∃ l : List Int, d = perD l ∧ l ≠ [] ∧ l.length ≤ 5 ∧ ∀ x ∈ l, 1 ≤ x ∧ x ≤ 12 := fun d hd => by
  have e : perDs = perLs.map perD := rfl
  rw [e] at hd
  obtain ⟨l, hl, rfl⟩ := List.mem_map.mp hd
  exact ⟨l, rfl, perLs_ok l hl⟩
theorem ok_law_lamps (N : Nm mg) (ct : CalR P w K mg base T 2 "_law_taken" 1 F_taken) (cp : CalR P w K mg base T 2 "_law_pick" 1 F_pick) (Fd : FnP K "_law_lamps" s_law_lamps f fd) : FnOk P w K mg base (L2.CX P w) 3 f fd ["row"] (spR K T 0 F_law_lamps) :=
  def_okR Fd sc_law_lamps rfl rfl fun cdv A outer s R C H0 E ds Qd hT IR hl hF B => by
    obtain ⟨rfl, hq⟩ := hF
    refine ws_cons (w1_parN 1 2 (gpn_l (gl_lst ga_nil) (gpn_d (gn_pick (P := fun d => ∃ l : List Int, d = perD l ∧ l ≠ [] ∧ l.length ≤ 5 ∧ ∀ x ∈ l, 1 ≤ x ∧ x ≤ 12) (ds := perDs) IR hT cp B.room 0
      (by
        refine ge_gl ?_
        refine gl_lst (ds := perDs) ?_ ?_
        · refine ga_cons ?_ ?_
          · refine ge_gl ?_
            refine gl_lst ?_ ?_
            · refine ga_cons ?_ ?_
              · exact ge_int
              refine ga_cons ?_ ?_
              · exact ge_int
              refine ga_cons ?_ ?_
              · exact ge_int
              refine ga_cons ?_ ?_
              · exact ge_int
              refine ga_cons ?_ ?_
              · exact ge_int
              exact ga_nil
            · rfl
          refine ga_cons ?_ ?_
          · refine ge_gl ?_
            refine gl_lst ?_ ?_
            · refine ga_cons ?_ ?_
              · exact ge_int
              refine ga_cons ?_ ?_
              · exact ge_int
              refine ga_cons ?_ ?_
              · exact ge_int
              refine ga_cons ?_ ?_
              · exact ge_int
              exact ga_nil
            · rfl
          refine ga_cons ?_ ?_
          · refine ge_gl ?_
            refine gl_lst ?_ ?_
            · refine ga_cons ?_ ?_
              · exact ge_int
              refine ga_cons ?_ ?_
              · exact ge_int
              refine ga_cons ?_ ?_
              · exact ge_int
              exact ga_nil
            · rfl
          refine ga_cons ?_ ?_
          · refine ge_gl ?_
            refine gl_lst ?_ ?_
            · refine ga_cons ?_ ?_
              · exact ge_int
              refine ga_cons ?_ ?_
              · exact ge_int
              refine ga_cons ?_ ?_
              · exact ge_int
              refine ga_cons ?_ ?_
              · exact ge_int
              exact ga_nil
            · rfl
          refine ga_cons ?_ ?_
          · refine ge_gl ?_
            refine gl_lst ?_ ?_
            · refine ga_cons ?_ ?_
              · exact ge_int
              refine ga_cons ?_ ?_
              · exact ge_int
              refine ga_cons ?_ ?_
              · exact ge_int
              exact ga_nil
            · rfl
          exact ga_nil
        · rfl) perDs_ne perDs_le perDs_ok) (gpn_gp gp_nil))) ?_ rfl sc_law_lamps.nd)
    · rintro _ ⟨_, ⟨_, _, ⟨per, rfl, p1, p2, p3⟩, rfl, rfl⟩, rfl⟩
      refine ⟨_, _, rfl, ?_⟩
      refine ws_cons (w1_forN (Ps := fun z => ∃ m : Int, (1 ≤ m ∧ m ≤ 5) ∧ z = rngD 0 m.toNat) (fun _ i Γ => ∃ l : List (Int × Int), l.length = i ∧ (∀ p ∈ l, 1 ≤ p.1 ∧ p.1 ≤ 12 ∧ 0 ≤ p.2 ∧ p.2 < p.1) ∧ Γ = [.raw (.ref R.row), .own (.lst (l.map encP)), .dat (perD per), .any, .any]) B.own rfl
        (gin_range1 (Pm := fun m => 1 ≤ m ∧ m ≤ 5) N.n_range (gni_add (Pa := fun i => i = 1) (Pb := fun r => 0 ≤ r ∧ r < 5) (gni_ge ge_int rfl) (gni_taken IR hT ct B.room 0 (gni_ge (P := fun m => m = 5) ge_int rfl) (fun m hm => by subst hm; exact ⟨by decide, by decide, fun r a b => ⟨a, b⟩⟩)) (fun i j hi hj => by subst hi; omega)) (fun m hm => by omega)) (fun ds _ => ⟨[], rfl, fun p hp => (by cases hp), rfl⟩) ?_ ?_)
      · rintro ds ⟨m, hm, rfl⟩ i d Γ1 hd ⟨l, l1, l2, rfl⟩
        obtain ⟨hi, _⟩ := rngD_get0 hd
        refine ⟨_, _, gg_name 3 sc_law_lamps.nd, ?_⟩
        refine ws_cons (w1_setN 4 (gn_pick (P := fun d => ∃ x : Int, d = .int x ∧ 1 ≤ x ∧ x ≤ 12) IR hT cp B.room 0 (ge_var 2) (by simp [p1]) (by rw [List.length_map]; omega) (fun d hd => by
          obtain ⟨x, hx, rfl⟩ := List.mem_map.mp hd
          exact ⟨x, rfl, p3 x hx⟩)) ?_ sc_law_lamps.nd)
        rintro _ ⟨x, rfl, x1, x2⟩
        refine ws_one (w1_appendN 1 (P := fun d => ∃ y : Int, d = encP (x, y) ∧ 0 ≤ y ∧ y < x) rfl (gn_tup (Ps := consP (fun d => d = .int x) (consP (fun d => ∃ y : Int, d = .int y ∧ 0 ≤ y ∧ y < x) nilP)) (gan_cons (gn_ge (ge_var 4) rfl) (gan_cons (gn_gni (P := fun y => 0 ≤ y ∧ y < x) (gni_taken IR hT ct B.room 0 (gni_ge (P := fun m => m = x) (ge_var 4) rfl) (fun m hm => by subst hm; exact ⟨by omega, by omega, fun r a b => ⟨a, b⟩⟩)) (fun y hy => ⟨y, rfl, hy⟩)) gan_nil)) (fun ds h => by
            match ds, h with
            | [_, _], _ => exact Nat.le_of_ble_eq_true rfl
            | _ :: _ :: _ :: _, ⟨_, _, h⟩ => exact h.elim
            | [_], ⟨_, h⟩ => exact h.elim
            | [], h => exact h.elim) (fun ds h => by
            match ds, h with
            | [_, _], ⟨rfl, ⟨y, rfl, hy⟩, _⟩ => exact ⟨y, rfl, hy⟩
            | _ :: _ :: _ :: _, ⟨_, _, h⟩ => exact h.elim
            | [_], ⟨_, h⟩ => exact h.elim
            | [], h => exact h.elim)) (by rw [List.length_map]; omega) ?_)
        rintro _ ⟨y, rfl, y0, y1⟩
        refine ⟨_, (wk_any 3).trans (wk_any 4), l ++ [(x, y)], by rw [List.length_append, l1]; rfl, fun p hp => ?_, by rw [List.map_append]; rfl⟩
        rcases List.mem_append.mp hp with z | z
        · exact l2 p z
        · rw [List.mem_singleton.mp z]; exact ⟨x1, x2, y0, y1⟩
      · rintro ds ⟨m, hm, rfl⟩ Γ' ⟨l, l1, l2, rfl⟩
        rw [rngD_len] at l1
        exact ws_one (w1_ret (ge_tupleOf N.n_tuple (gs_own 1)) (hq l ⟨by omega, by omega, l2⟩))
/-! ### the law's own reckonings -/
def F_law_cycle : DSpec := fun ds Qd _ => ∃ l, ds = [encL l] ∧ OkL l ∧ Qd (.int (cyc l))
theorem ok_law_cycle (N : Nm mg) (Fd : FnP K "_law_cycle" s_law_cycle f fd) : FnOk P w K mg base (L2.CX P w) 1 f fd ["lamps"] (spP K CB 1 F_law_cycle) :=
  def_ok Fd sc_law_cycle rfl fun cdv A outer s H0 O0 E ds Qd Qe hl hF B => by
    obtain ⟨l, rfl, ok, hq⟩ := hF
    obtain ⟨c1, c2, c3, c4⟩ := cyc_spec ok.okP
    refine ws_cons (w1_set 1 ge_int ?_ sc_law_cycle.nd)
    refine ws_cons (w1_while (fun m Γ => ∃ x : Int, 1 ≤ x ∧ x ≤ cyc l ∧ m = (cyc l - x).toNat ∧ Γ = [.dat (encL l), .dat (.int x), .any, .any]) (cyc l - 1).toNat B.own ⟨1, by decide, by omega, rfl, rfl⟩ ?_)
    rintro m Γ ⟨x, x0, x1, rfl, rfl⟩
    refine ⟨_, gt_neF B.room.units (ge_gl (gl_filI (xs := l) (p := fun p => !decide (x % p.1 = 0)) (g := fun p => p.1) [("period", 2), ("first", 3)] rfl sc_law_cycle.nd (gi_tup (ge_var 0)) (by have := ok.2.1; omega) (fun p hp s H Cc cl' fp => gg_tup rfl (ggs_cons (gg_name 2 sc_law_cycle.nd) (ggs_cons (gg_name 3 sc_law_cycle.nd) ggs_nil))) (fun p hp s H Cc cl' fp => gt_neI (ge_mod (ge_var 1) (ge_var 2) (by have := (ok.okP p hp).1; omega)) ge_int) (fun p hp h s H Cc cl' fp => ge_var 2))) (gr_ge (ge_gl (gl_lst ga_nil))) (shaped_nbl (n := 1) (nbl_ints (n := 0) _)) rfl, fun hb => ?_, fun hb => ?_⟩
    · have hx : x ≠ cyc l := fun z => by
        have : (l.filter fun p => !decide (x % p.1 = 0)) = [] := List.filter_eq_nil_iff.mpr fun p hp => by
          rw [z]
          simp [Int.emod_eq_zero_of_dvd (c3 p hp)]
        rw [this] at hb
        exact absurd hb (by decide)
      refine ws_one (w1_set 1 (ge_add (ge_var 1) ge_int) ?_ sc_law_cycle.nd)
      exact ⟨(cyc l - (x + 1)).toNat, by omega, x + 1, by omega, by omega, rfl, rfl⟩
    · have hall : ∀ p ∈ l, p.1 ∣ x := fun p hp => by
        have h0 : ((l.filter fun p => !decide (x % p.1 = 0)).map fun p => p.1) = [] := by
          rw [Bool.not_eq_false'] at hb
          have := (eqv_nbl (n := 1) (m := 1) (a := .list _) (b := .list []) (nbl_ints (n := 0) _) rfl).mp hb
          injection this with this
          exact List.map_eq_nil_iff.mp this
        rw [List.map_eq_nil_iff, List.filter_eq_nil_iff] at h0
        have := h0 p hp
        simp at this
        exact Int.dvd_of_emod_eq_zero this
      have := Int.le_of_dvd (by omega) (c4 x hall)
      have : x = cyc l := by omega
      refine ws_one (w1_ret (ge_var 1) ?_)
      rw [this]
      exact hq
def F_law_shines : DSpec := fun ds Qd _ => ∃ l h, ds = [encL l, .int h] ∧ OkL l ∧ 0 ≤ h ∧ Qd (.tuple ((idxs (litP h) l).map .int))
end

end K06
namespace K06
open PySem PySem.Spec PyProof.Rows L2 Fw
theorem idxs_go {α : Type} (p : α → Bool) : ∀ (l : List α) (k : Nat), (((l.zipIdx k).filter fun q => p q.1).map fun q => ((q.2 : Nat) : Int)) = (((List.range l.length).filter fun i => (l[i]?).any p).map fun i => ((i + k : Nat) : Int))
  | [], k => rfl
  | x :: l, k => by
    rw [List.zipIdx_cons, List.length_cons, List.range_succ_eq_map, List.filter_cons, List.filter_cons, List.filter_map]
    have ih := idxs_go p l (k + 1)
    have e : ((fun i => ((x :: l)[i]?).any p) ∘ Nat.succ) = fun i => (l[i]?).any p := by
      funext i
      show ((x :: l)[i + 1]?).any p = _
      rw [List.getElem?_cons_succ]
    rw [e]
    have h0 : ((x :: l)[0]?).any p = p x := rfl
    rw [h0]
    have tail : List.map (fun i => ((i + k : Nat) : Int)) (List.map Nat.succ (List.filter (fun i => (l[i]?).any p) (List.range l.length))) = List.map (fun q => ((q.2 : Nat) : Int)) (List.filter (fun q => p q.1) (l.zipIdx (k + 1))) := by
      rw [ih, List.map_map]
      refine List.map_congr_left fun i _ => ?_
      show ((i + 1 + k : Nat) : Int) = ((i + (k + 1) : Nat) : Int)
      rw [Nat.add_right_comm, Nat.add_assoc]
    cases p x with
    | true =>
      rw [if_pos rfl, if_pos rfl, List.map_cons, List.map_cons, tail]
      simp
    | false =>
      rw [if_neg Bool.false_ne_true, if_neg Bool.false_ne_true, tail]
theorem idxs_range {α : Type} (p : α → Bool) (l : List α) : idxs p l = ((List.range l.length).filter fun i => (l[i]?).any p).map fun i => ((i : Nat) : Int) := by
  have := idxs_go p l 0
  unfold idxs
  rw [this]
  rfl
theorem litP_alt {h : Int} (h0 : 0 ≤ h) {p : Int × Int} (hp : OkP p) : (decide (p.2 ≤ h) && decide ((h - p.2) % p.1 = 0)) = litP h p := by
  cases e : litP h p with
  | true =>
    have d := (litP_dvd hp).mp e
    have e2 := of_decide_eq_true e
    have : h % p.1 ≤ h := by
      have a1 := Int.mul_nonneg (Int.le_of_lt (show 0 < p.1 by have := hp.1; omega)) (Int.ediv_nonneg h0 (show 0 ≤ p.1 by have := hp.1; omega))
      have a2 := Int.emod_def h p.1
      omega
    rw [decide_eq_true (by omega), decide_eq_true (Int.emod_eq_zero_of_dvd d)]
    rfl
  | false =>
    cases e2 : decide ((h - p.2) % p.1 = 0) with
    | true =>
      have := (litP_dvd hp).mpr (Int.dvd_of_emod_eq_zero (of_decide_eq_true e2))
      rw [e] at this
      cases this
    | false => rw [Bool.and_false]
theorem least_nat {P : Nat → Prop} [DecidablePred P] : ∀ n, P n → ∃ m, m ≤ n ∧ P m ∧ ∀ k, k < m → ¬ P k
  | 0, h => ⟨0, Nat.le_refl 0, h, fun k hk => by omega⟩
  | n + 1, h => by
    by_cases e : ∃ k, k ≤ n ∧ P k
    · obtain ⟨k, hk, pk⟩ := e
      obtain ⟨m, m1, m2, m3⟩ := least_nat_aux P n ⟨k, hk, pk⟩
      exact ⟨m, by omega, m2, m3⟩
    · exact ⟨n + 1, Nat.le_refl _, h, fun k hk pk => e ⟨k, by omega, pk⟩⟩
where
  least_nat_aux (P : Nat → Prop) [DecidablePred P] : ∀ n, (∃ k, k ≤ n ∧ P k) → ∃ m, m ≤ n ∧ P m ∧ ∀ k, k < m → ¬ P k
  | 0, ⟨k, hk, pk⟩ => ⟨0, Nat.le_refl 0, by have : k = 0 := by omega
                                            rw [this] at pk; exact pk, fun j hj => by omega⟩
  | n + 1, ⟨k, hk, pk⟩ => by
    by_cases e : ∃ k, k ≤ n ∧ P k
    · obtain ⟨m, m1, m2, m3⟩ := least_nat_aux P n e
      exact ⟨m, by omega, m2, m3⟩
    · have : k = n + 1 := by
        by_cases q : k ≤ n
        · exact absurd ⟨k, q, pk⟩ e
        · omega
      rw [this] at pk
      exact ⟨n + 1, Nat.le_refl _, pk, fun j hj pj => e ⟨j, by omega, pj⟩⟩
theorem run_exists {l : List (Int × Int)} (ok : OkL l) (h : Int) : ∃ t, IsRun l h t := by
  obtain ⟨h0, a0, a1, a2⟩ := lit_some ok
  have c1 := (cyc_spec ok.okP).1
  have t0 := Int.emod_nonneg (h0 - h) (Int.ne_of_gt c1)
  have lt : litAt l (h + (h0 - h) % cyc l) = true := by
    rw [litAt_per ok.okP (t := h0) ⟨-((h0 - h) / cyc l), by
      have := Int.emod_def (h0 - h) (cyc l)
      rw [Int.mul_neg]
      omega⟩]
    exact a2
  obtain ⟨m, m1, m2, m3⟩ := least_nat (P := fun n : Nat => litAt l (h + (n : Nat)) = true) ((h0 - h) % cyc l).toNat (by rw [Int.toNat_of_nonneg t0]; exact lt)
  refine ⟨m, by omega, fun u u0 u1 => ?_, m2⟩
  have := m3 u.toNat (by omega)
  rw [Int.toNat_of_nonneg u0] at this
  simpa using this
section
variable {P : Program} {w : World} {K : PySem.W.Frag} {mg : Str → Option Value} {base : Heap} {CB fI : Addr} {f : Addr} {fd fdI : FuncData} {k : Nat} {T : List (Addr × Str)}
theorem ok_law_shines (N : Nm mg) (Fd : FnP K "_law_shines" s_law_shines f fd) : FnOk P w K mg base (L2.CX P w) 1 f fd ["lamps", "hour"] (spP K CB 2 F_law_shines) :=
  def_ok Fd sc_law_shines rfl fun cdv A outer s H0 O0 E ds Qd Qe hl hF B => by
    obtain ⟨l, h, rfl, ok, h0, hq⟩ := hF
    have l5 := ok.2.1
    rw [idxs_range] at hq
    refine ws_one (w1_ret (ge_tupleOf N.n_tuple (gs_gl (gl_filI (xs := List.range l.length) (p := fun i => (l[i]?).any (litP h)) (g := fun i => ((i : Nat) : Int)) [("at", 2)] rfl sc_law_shines.nd (gi_cast (gi_range1 N.n_range (ge_lenT N.n_len (gr_ge (ge_var 0))) (by rw [encL_len]; omega) (by omega)) (by rw [encL_len]; exact rngD_0 _)) (by rw [List.length_range]; omega) (fun i hi s H Cc cl' fp => gg_name 2 sc_law_shines.nd) (fun i hi s H Cc cl' fp => ?_) (fun i hi hp s H Cc cl' fp => ge_var 2)))) hq)
    have hi' := List.mem_range.mp hi
    obtain ⟨p, hp⟩ : ∃ p, l[i]? = some p := ⟨_, List.getElem?_eq_getElem hi'⟩
    have hpl := ok.okP p (List.mem_of_getElem? hp)
    refine gt_cast (gt_w (gw_and (gt_ge (ge_var 1) (ge_ixT (ge_ixT (ge_var 0) (ge_var 2) (encL_at hp)) ge_int (atI_nat (j := 1) rfl))) fun _ => gw_and1 (gt_eqI (ge_mod (ge_sub (ge_var 1) (ge_ixT (ge_ixT (ge_var 0) (ge_var 2) (encL_at hp)) ge_int (atI_nat (j := 1) rfl))) (ge_ixT (ge_ixT (ge_var 0) (ge_var 2) (encL_at hp)) ge_int (atI_nat (j := 0) rfl)) (by have := hpl.1; omega)) ge_int))) ?_
    rw [hp]
    exact litP_alt h0 hpl
def F_law_dark : DSpec := fun ds Qd _ => ∃ l, ds = [.list ((litRow l).map .bool), .int (cyc l)] ∧ OkL l ∧ ∀ h s, DarkR l 0 (cyc l) h s → Qd (.tuple [.int h, .int s])
def DJ (l : List (Int × Int)) (i bh bs : Int) : Prop := (bh = 0 ∧ bs = 0 ∧ ∀ h', 0 ≤ h' → h' < i → ∀ t, IsRun l h' t → t = 0) ∨ (0 ≤ bh ∧ bh < i ∧ 0 < bs ∧ IsRun l bh bs ∧ ∀ h', 0 ≤ h' → h' < i → ∀ t, IsRun l h' t → t ≤ bs ∧ (h' < bh → t < bs))
theorem ok_law_dark (N : Nm mg) (Fd : FnP K "_law_dark" s_law_dark f fd) : FnOk P w K mg base (L2.CX P w) 1 f fd ["lit", "many"] (spP K CB 2 F_law_dark) :=
  def_ok Fd sc_law_dark rfl fun cdv A outer s H0 O0 E ds Qd Qe hl hF B => by
    obtain ⟨l, rfl, ok, hq⟩ := hF
    obtain ⟨c1, c2, _, _⟩ := cyc_spec ok.okP
    refine ws_cons (w1_set 2 (ge_tup (ga_cons ge_int (ga_cons ge_int ga_nil))) ?_ sc_law_dark.nd)
    refine ws_cons (w1_forW (fun i Γ => ∃ bh bs, DJ l (i : Nat) bh bs ∧ Γ = [.dat (.list ((litRow l).map .bool)), .dat (.int (cyc l)), .dat (.tuple [.int bh, .int bs]), .any, .any]) B.own rfl (gi_range1 N.n_range (ge_var 1) (by omega) (by omega)) ⟨0, 0, .inl ⟨rfl, rfl, fun h' a b => by omega⟩, rfl⟩ ?_ ?_)
    · rintro i d Γ1 hd ⟨bh, bs, D, rfl⟩
      obtain ⟨hi, rfl⟩ := rngD_get0 hd
      obtain ⟨T, hT⟩ := run_exists ok (i : Nat)
      refine ⟨_, _, gg_name 3 sc_law_dark.nd, ?_⟩
      refine ws_cons (w1_set 4 ge_int ?_ sc_law_dark.nd)
      refine ws_cons (w1_while (fun m Γ => ∃ x : Int, 0 ≤ x ∧ x ≤ T ∧ m = (T - x).toNat ∧ Γ = [.dat (.list ((litRow l).map .bool)), .dat (.int (cyc l)), .dat (.tuple [.int bh, .int bs]), .dat (.int (i : Nat)), .dat (.int x)]) T.toNat B.own ⟨0, by decide, hT.1, by omega, rfl⟩ ?_)
      rintro m Γ ⟨x, x0, x1, rfl, rfl⟩
      refine ⟨_, gt_not (gt_val (ge_ixF (ge_var 0) (ge_mod (ge_add (ge_var 3) (ge_var 4)) (ge_var 1) c1) (litRow_at ok _))), fun hb => ?_, fun hb => ?_⟩
      · have hx : x ≠ T := fun z => by
          rw [z, hT.2.2] at hb
          cases hb
        refine ws_one (w1_set 4 (ge_add (ge_var 4) ge_int) ?_ sc_law_dark.nd)
        exact ⟨(T - (x + 1)).toNat, by omega, x + 1, by omega, by omega, rfl, rfl⟩
      · have hx : x = T := by
          rw [Bool.not_eq_false'] at hb
          by_cases z : x < T
          · have := hT.2.1 x x0 z
            rw [hb] at this
            cases this
          · omega
        subst hx
        refine ws_one (w1_if (gt_gt (ge_var 4) (ge_ixT (ge_var 2) ge_int (atI_nat (j := 1) rfl))) (fun hz => ?_) fun hz => ws_nil ?_)
        · have hz' := of_decide_eq_true hz
          refine ws_one (w1_set 2 (ge_tup (ga_cons (ge_var 3) (ga_cons (ge_var 4) ga_nil))) ?_ sc_law_dark.nd)
          refine ⟨_, (wk_any 3).trans (wk_any 4), (i : Nat), x, .inr ⟨by omega, by omega, ?_, hT, fun h' a b t ht => ?_⟩, rfl⟩
          · rcases D with ⟨_, e, _⟩ | ⟨_, _, e, _⟩ <;> omega
          · by_cases z : h' = (i : Nat)
            · subst z
              have := isRun_uniq ht hT
              omega
            · rcases D with ⟨_, e, e2⟩ | ⟨_, _, e, _, e2⟩
              · have := e2 h' a (by omega) t ht
                omega
              · have := (e2 h' a (by omega) t ht).1
                omega
        · have hz' := of_decide_eq_false hz
          refine ⟨_, (wk_any 3).trans (wk_any 4), bh, bs, ?_, rfl⟩
          rcases D with ⟨e1, e, e2⟩ | ⟨e1, e3, e, e4, e2⟩
          · refine .inl ⟨e1, e, fun h' a b t ht => ?_⟩
            by_cases z : h' = (i : Nat)
            · subst z
              have := isRun_uniq ht hT
              omega
            · exact e2 h' a (by omega) t ht
          · refine .inr ⟨e1, by omega, e, e4, fun h' a b t ht => ?_⟩
            by_cases z : h' = (i : Nat)
            · subst z
              have := isRun_uniq ht hT
              omega
            · exact e2 h' a (by omega) t ht
    · rintro Γ' ⟨bh, bs, D, rfl⟩
      rw [rngD_len] at D
      have em : (((cyc l).toNat : Nat) : Int) = cyc l := Int.toNat_of_nonneg (by omega)
      rw [em] at D
      refine ws_one (w1_ret (ge_var 2) (hq bh bs ?_))
      rcases D with ⟨rfl, rfl, e2⟩ | ⟨e1, e3, e, e4, e2⟩
      · obtain ⟨T, hT⟩ := run_exists ok 0
        have := e2 0 (Int.le_refl 0) c1 T hT
        subst this
        exact ⟨Int.le_refl 0, c1, hT, fun h' a b t ht => ⟨by have := e2 h' a b t ht; omega, fun z => by omega⟩⟩
      · exact ⟨e1, e3, e4, e2⟩
end

end K06
namespace K06
open PySem PySem.Spec PyProof.Rows L2 Fw
/-! ### shining hours as data -/
def shD (l : List (Int × Int)) (h : Int) : PyData := .tuple ((idxs (litP h) l).map .int)
theorem idxs_congr {α : Type} {p q : α → Bool} {l : List α} (h : ∀ x ∈ l, p x = q x) : idxs p l = idxs q l := by
  rw [idxs_range, idxs_range]
  congr 1
  refine List.filter_congr fun i hi => ?_
  cases e : l[i]? with
  | none => rfl
  | some x => exact h x (List.mem_of_getElem? e)
theorem shD_per {l : List (Int × Int)} (hl : ∀ p ∈ l, OkP p) {h t : Int} (e : cyc l ∣ h - t) : shD l h = shD l t := by
  unfold shD
  rw [idxs_congr fun p hp => litP_per hl e hp]
theorem idxs_nil {α : Type} {p : α → Bool} {l : List α} : idxs p l = [] ↔ l.any p = false := by
  rw [idxs_range, List.map_eq_nil_iff, List.filter_eq_nil_iff, List.any_eq_false]
  constructor
  · intro h x hx
    obtain ⟨i, hi⟩ := List.getElem?_of_mem hx
    have := h i (List.mem_range.mpr (List.getElem?_eq_some_iff.mp hi).1)
    rw [hi] at this
    exact this
  · intro h i hi
    obtain ⟨x, hx⟩ : ∃ x, l[i]? = some x := ⟨_, List.getElem?_eq_getElem (List.mem_range.mp hi)⟩
    rw [hx]
    exact h x (List.mem_of_getElem? hx)
theorem nbl_shD {n : Nat} (l : List (Int × Int)) (h : Int) : nbl (n + 1) (shD l h) = true := nbl_ints (n := n) _
theorem nbl_rng {n : Nat} (lo : Int) (k : Nat) : (rngD lo k).all (nbl n) = true := by
  unfold rngD
  rw [List.all_map]
  exact List.all_eq_true.mpr fun x _ => by cases n <;> rfl
theorem shD_ne (l : List (Int × Int)) (h : Int) : (!PyData.eqv (shD l h) (.tuple [])) = litAt l h := by
  rw [eqv_dec (n := 1) (m := 1) (nbl_shD (n := 0) l h) rfl (p := litAt l h = false) ?_]
  · cases litAt l h <;> rfl
  · unfold shD litAt
    rw [← idxs_nil]
    constructor
    · intro z
      injection z with z
      exact List.map_eq_nil_iff.mp z
    · intro z
      rw [z]
      rfl
theorem shD_every (l : List (Int × Int)) (h : Int) : PyData.eqv (shD l h) (.tuple (rngD 0 l.length)) = allLit l h := by
  have hrw : (rngD 0 l.length) = ((List.range l.length).map fun i => ((i : Nat) : Int)).map PyData.int := by
    rw [rngD_0, List.map_map]
    rfl
  rw [eqv_dec (n := 1) (m := 1) (nbl_shD (n := 0) l h) (show nbl 1 (.tuple (rngD 0 l.length)) = true from nbl_rng (n := 0) 0 _) (p := allLit l h = true) ?_]
  · cases allLit l h <;> rfl
  · unfold shD allLit
    rw [hrw, idxs_range]
    constructor
    · intro z
      injection z with z
      have z := map_int_inj z
      have z2 : (List.range l.length).filter (fun i => (l[i]?).any (litP h)) = List.range l.length := by
        refine List.Sublist.eq_of_length List.filter_sublist ?_
        have := congrArg List.length z
        rwa [List.length_map, List.length_map] at this
      rw [List.filter_eq_self] at z2
      refine List.all_eq_true.mpr fun x hx => ?_
      obtain ⟨i, hi⟩ := List.getElem?_of_mem hx
      have := z2 i (List.mem_range.mpr (List.getElem?_eq_some_iff.mp hi).1)
      rw [hi] at this
      exact this
    · intro z
      rw [List.filter_eq_self.mpr]
      intro i hi
      obtain ⟨x, hx⟩ : ∃ x, l[i]? = some x := ⟨_, List.getElem?_eq_getElem (List.mem_range.mp hi)⟩
      rw [hx]
      exact List.all_eq_true.mp z x (List.mem_of_getElem? hx)
/-- lamp i shines at h -/
def litI (l : List (Int × Int)) (h : Int) (i : Nat) : Bool := (l[i]?).any (litP h)
theorem shD_in (l : List (Int × Int)) (h : Int) (i : Nat) : (((idxs (litP h) l).map PyData.int).any fun z => PyData.eqv z (.int (i : Nat))) = litI l h i := by
  rw [idxs_range, List.map_map, List.any_map]
  cases e : litI l h i with
  | true =>
    refine List.any_eq_true.mpr ⟨i, List.mem_filter.mpr ⟨List.mem_range.mpr ?_, e⟩, ?_⟩
    · unfold litI at e
      cases z : l[i]? with
      | none => rw [z] at e; cases e
      | some x => exact (List.getElem?_eq_some_iff.mp z).1
    · show PyData.eqv (.int ((i : Nat) : Int)) (.int (i : Nat)) = true
      simp [PyData.eqv]
  | false =>
    refine List.any_eq_false.mpr fun j hj => ?_
    obtain ⟨_, hj⟩ := List.mem_filter.mp hj
    show ¬ PyData.eqv (.int ((j : Nat) : Int)) (.int (i : Nat)) = true
    intro z
    simp [PyData.eqv] at z
    have : j = i := by omega
    subst this
    unfold litI at e
    rw [e] at hj
    cases hj
/-! ### pairs -/
def prs (n : Nat) : List (Nat × Nat) := (List.range n).flatMap fun (i : Nat) => ((List.range n).filter fun (j : Nat) => decide (((i : Nat) : Int) < ((j : Nat) : Int))).map fun (j : Nat) => (i, j)
def encNN (q : Nat × Nat) : PyData := .tuple [.int (q.1 : Nat), .int (q.2 : Nat)]
theorem prs_mem {n : Nat} {q : Nat × Nat} : q ∈ prs n ↔ q.1 < q.2 ∧ q.2 < n := by
  unfold prs
  simp only [List.mem_flatMap, List.mem_map, List.mem_filter, List.mem_range, decide_eq_true_eq]
  constructor
  · rintro ⟨i, hi, j, ⟨hj, hij⟩, rfl⟩
    exact ⟨by omega, hj⟩
  · rintro ⟨h1, h2⟩
    exact ⟨q.1, by omega, q.2, ⟨h2, by omega⟩, rfl⟩
def lexLt (a b : Nat × Nat) : Prop := a.1 < b.1 ∨ (a.1 = b.1 ∧ a.2 < b.2)
theorem prs_sorted (n : Nat) : (prs n).Pairwise lexLt := by
  unfold prs
  rw [List.pairwise_flatMap]
  refine ⟨fun i _ => ?_, ?_⟩
  · rw [List.pairwise_map]
    exact (List.pairwise_lt_range.filter _).imp fun h => .inr ⟨rfl, h⟩
  · refine List.Pairwise.imp (R := fun a b : Nat => a < b) (fun {a b} h => fun x hx y hy => ?_) List.pairwise_lt_range
    obtain ⟨j, _, rfl⟩ := List.mem_map.mp hx
    obtain ⟨k, _, rfl⟩ := List.mem_map.mp hy
    exact .inl h
def comm (l : List (Int × Int)) (q : Nat × Nat) : Bool := (List.range (cyc l).toNat).any fun h => litI l (h : Nat) q.1 && litI l (h : Nat) q.2
def badL (l : List (Int × Int)) : List (Nat × Nat) := (prs l.length).filter fun q => !comm l q
theorem comm_clash {l : List (Int × Int)} (ok : OkL l) {i j : Nat} {p q : Int × Int} (hp : l[i]? = some p) (hq : l[j]? = some q) : comm l (i, j) = !clashB p q := by
  obtain ⟨c1, c2, c3, c4⟩ := cyc_spec ok.okP
  have okp := ok.okP p (List.mem_of_getElem? hp)
  have okq := ok.okP q (List.mem_of_getElem? hq)
  have key := clash_iff okp okq
  unfold comm litI
  rw [hp, hq]
  show ((List.range (cyc l).toNat).any fun h => litP (h : Nat) p && litP (h : Nat) q) = _
  cases e : clashB p q with
  | false =>
    obtain ⟨t, t0, t1, t2⟩ := key.mp e
    have r0 := Int.emod_nonneg t (Int.ne_of_gt c1)
    have r1 := Int.emod_lt_of_pos t c1
    have d : cyc l ∣ t % cyc l - t := ⟨-(t / cyc l), by
      have := Int.emod_def t (cyc l)
      rw [Int.mul_neg]
      omega⟩
    refine List.any_eq_true.mpr ⟨(t % cyc l).toNat, List.mem_range.mpr (by omega), ?_⟩
    rw [Int.toNat_of_nonneg r0, litP_per ok.okP d (List.mem_of_getElem? hp), litP_per ok.okP d (List.mem_of_getElem? hq), t1, t2]
    rfl
  | true =>
    refine List.any_eq_false.mpr fun h hh z => ?_
    rw [Bool.and_eq_true] at z
    have := key.mpr ⟨(h : Nat), by omega, z.1, z.2⟩
    rw [e] at this
    cases this
def dueC (l : List (Int × Int)) : PyData := if badL l ≠ [] then ((badL l).map encNN).headD .none else .none
theorem badL_mem {l : List (Int × Int)} (ok : OkL l) {i j : Nat} : (i, j) ∈ badL l ↔ i < j ∧ j < l.length ∧ ∃ p q, l[i]? = some p ∧ l[j]? = some q ∧ clashB p q = true := by
  unfold badL
  rw [List.mem_filter, prs_mem]
  constructor
  · rintro ⟨⟨h1, h2⟩, h3⟩
    have h1 : i < j := h1
    have h2 : j < l.length := h2
    obtain ⟨p, hp⟩ : ∃ p, l[i]? = some p := ⟨_, List.getElem?_eq_getElem (by omega)⟩
    obtain ⟨q, hq⟩ : ∃ q, l[j]? = some q := ⟨_, List.getElem?_eq_getElem h2⟩
    rw [comm_clash ok hp hq, Bool.not_not] at h3
    exact ⟨h1, h2, p, q, hp, hq, h3⟩
  · rintro ⟨h1, h2, p, q, hp, hq, h3⟩
    refine ⟨⟨h1, h2⟩, ?_⟩
    rw [comm_clash ok hp hq, h3]
    rfl
theorem clash_uniq {l : List (Int × Int)} (ok : OkL l) {d : PyData} (h : ClashR l d) : d = dueC l := by
  unfold dueC
  rcases h with ⟨rfl, h⟩ | ⟨i, j, p, q, h1, rfl, h2, h3, h4, h5⟩
  · have : badL l = [] := by
      cases e : badL l with
      | nil => rfl
      | cons x xs =>
        have hx : x ∈ badL l := by rw [e]; exact List.mem_cons_self
        obtain ⟨a, b⟩ := x
        obtain ⟨g1, g2, p, q, g3, g4, g5⟩ := (badL_mem ok).mp hx
        have := h a b g1 g2 p q g3 g4
        rw [g5] at this
        cases this
    rw [this]
    rfl
  · have hm : (i, j) ∈ badL l := (badL_mem ok).mpr ⟨h1, (List.getElem?_eq_some_iff.mp h3).1, p, q, h2, h3, h4⟩
    have hs : (badL l).Pairwise lexLt := (prs_sorted l.length).filter _
    cases e : badL l with
    | nil => rw [e] at hm; cases hm
    | cons x xs =>
      rw [if_pos (by simp)]
      show _ = encNN x
      rw [e] at hs hm
      have hx : x ∈ badL l := by rw [e]; exact List.mem_cons_self
      obtain ⟨a, b⟩ := x
      have : (i, j) = (a, b) := by
        rcases List.mem_cons.mp hm with z | z
        · exact z
        · have lt := (List.pairwise_cons.mp hs).1 (i, j) z
          obtain ⟨g1, g2, p', q', g3, g4, g5⟩ := (badL_mem ok).mp hx
          have := h5 a b g1 g2 lt p' q' g3 g4
          rw [g5] at this
          cases this
      cases this
      rfl
/-! ### all together -/
def wholeL (l : List (Int × Int)) : List Nat := (List.range (cyc l).toNat).filter fun h => allLit l (h : Nat)
def dueT (l : List (Int × Int)) : PyData := if wholeL l ≠ [] then ((wholeL l).map fun h => PyData.int (h : Nat)).headD .none else .none
theorem tog_uniq {l : List (Int × Int)} (ok : OkL l) {d : PyData} (h : TogR l d) : d = dueT l := by
  have c1 := (cyc_spec ok.okP).1
  unfold dueT
  rcases h with ⟨rfl, h⟩ | ⟨t, rfl, h1, h2, h3, h4⟩
  · have : wholeL l = [] := by
      unfold wholeL
      rw [List.filter_eq_nil_iff]
      intro x _
      rw [h (x : Nat) (by omega)]
      exact Bool.false_ne_true
    rw [this]
    rfl
  · have hm : t.toNat ∈ wholeL l := List.mem_filter.mpr ⟨List.mem_range.mpr (by omega), by rw [Int.toNat_of_nonneg h1]; exact h3⟩
    have all : ∀ x ∈ wholeL l, x = t.toNat := fun x hx => by
      obtain ⟨g1, g2⟩ := List.mem_filter.mp hx
      have := h4 (x : Nat) (by omega) g2
      rw [Int.emod_eq_of_lt (by omega) (by have := List.mem_range.mp g1; omega)] at this
      omega
    cases e : wholeL l with
    | nil => rw [e] at hm; cases hm
    | cons x xs =>
      rw [if_pos (by simp)]
      show _ = PyData.int (x : Nat)
      have := all x (by rw [e]; exact List.mem_cons_self)
      rw [this, Int.toNat_of_nonneg h1]
theorem bad_whole {l : List (Int × Int)} (ok : OkL l) : decide (badL l = []) = !decide (wholeL l = []) := by
  obtain ⟨c1, c2, c3, c4⟩ := cyc_spec ok.okP
  have key : badL l = [] ↔ ¬ wholeL l = [] := by
    constructor
    · intro h
      have hp : l.Pairwise (fun p q => clashB p q = false) := by
        rw [List.pairwise_iff_getElem]
        intro i j hi hj hij
        cases e : clashB l[i] l[j] with
        | false => rfl
        | true =>
          have : (i, j) ∈ badL l := (badL_mem ok).mpr ⟨hij, hj, _, _, List.getElem?_eq_getElem hi, List.getElem?_eq_getElem hj, e⟩
          rw [h] at this
          cases this
      obtain ⟨t, t0, ht⟩ := joint ok.okP hp
      have r0 := Int.emod_nonneg t (Int.ne_of_gt c1)
      have r1 := Int.emod_lt_of_pos t c1
      have d : cyc l ∣ t % cyc l - t := ⟨-(t / cyc l), by
        have := Int.emod_def t (cyc l)
        rw [Int.mul_neg]
        omega⟩
      have hm : (t % cyc l).toNat ∈ wholeL l := by
        refine List.mem_filter.mpr ⟨List.mem_range.mpr (by omega), ?_⟩
        rw [Int.toNat_of_nonneg r0]
        exact List.all_eq_true.mpr fun p hp => by rw [litP_per ok.okP d hp]; exact allLit_mem ht hp
      intro z
      rw [z] at hm
      cases hm
    · intro h
      obtain ⟨x, hx⟩ := List.exists_mem_of_ne_nil _ h
      obtain ⟨g1, g2⟩ := List.mem_filter.mp hx
      cases e : badL l with
      | nil => rfl
      | cons y ys =>
        have hy : y ∈ badL l := by rw [e]; exact List.mem_cons_self
        obtain ⟨a, b⟩ := y
        obtain ⟨g3, g4, p, q, g5, g6, g7⟩ := (badL_mem ok).mp hy
        have := (clash_iff (ok.okP p (List.mem_of_getElem? g5)) (ok.okP q (List.mem_of_getElem? g6))).mpr ⟨(x : Nat), by omega, allLit_mem g2 (List.mem_of_getElem? g5), allLit_mem g2 (List.mem_of_getElem? g6)⟩
        rw [g7] at this
        cases this
  by_cases h : badL l = []
  · rw [decide_eq_true h, decide_eq_false (key.mp h)]
    rfl
  · rw [decide_eq_false h]
    have : wholeL l = [] := Classical.not_not.mp fun z => h (key.mpr z)
    rw [decide_eq_true this]
    rfl
theorem head_t {ds : List PyData} (h : (!PyData.eqv (.list ds) (.list [])) = true) : atI ds 0 = some (ds.headD .none) := by
  rw [eqv_lnil] at h
  cases ds with
  | nil => cases h
  | cons d ds => exact atI_nat (j := 0) rfl
theorem head_f {ds : List PyData} (h : (!PyData.eqv (.list ds) (.list [])) = false) : ds.headD .none = .none := by
  rw [eqv_lnil] at h
  cases ds with
  | nil => rfl
  | cons d ds => cases h
theorem dueT_h (l : List (Int × Int)) : dueT l = ((wholeL l).map fun h => PyData.int (h : Nat)).headD .none := by
  unfold dueT
  cases wholeL l with
  | nil => rfl
  | cons x xs => rfl
theorem dueC_h (l : List (Int × Int)) : dueC l = ((badL l).map encNN).headD .none := by
  unfold dueC
  cases badL l with
  | nil => rfl
  | cons x xs => rfl
theorem simp_dueT (l : List (Int × Int)) : simpD 1 (dueT l) = true := by
  rw [dueT_h]
  cases wholeL l <;> rfl
theorem simp_dueC (l : List (Int × Int)) : simpD 1 (dueC l) = true := by
  rw [dueC_h]
  cases badL l <;> rfl
theorem out2_prs (n : Nat) : out2 (fun (_ : Nat) => true) (fun _ => List.range n) (fun i j => decide (((i : Nat) : Int) < ((j : Nat) : Int))) (fun i j => encNN (i, j)) (List.range n) = (prs n).map encNN := by
  unfold out2 prs
  rw [List.filter_eq_self.mpr fun _ _ => rfl, List.map_flatMap]
  congr 1
  funext i
  rw [List.map_map]
  rfl
theorem nbl_NN {n : Nat} (l : List (Nat × Nat)) : (l.map encNN).all (nbl (n + 1)) = true := by
  rw [List.all_map]
  exact List.all_eq_true.mpr fun x _ => by cases n <;> rfl
theorem nbl_nat {n : Nat} (l : List Nat) : (l.map fun h => PyData.int ((h : Nat) : Int)).all (nbl n) = true := by
  rw [List.all_map]
  exact List.all_eq_true.mpr fun x _ => by cases n <;> rfl
theorem nbl_shs {n : Nat} (l : List (Int × Int)) (hs : List Nat) : (hs.map fun h => shD l ((h : Nat) : Int)).all (nbl (n + 1)) = true := by
  rw [List.all_map]
  exact List.all_eq_true.mpr fun x _ => nbl_shD (n := n) l _
theorem isEmpty_filter {α : Type} (p : α → Bool) (l : List α) (f : α → PyData) : ((l.filter p).map f).isEmpty = !l.any p := by
  cases e : l.any p with
  | true =>
    obtain ⟨x, hx, h⟩ := List.any_eq_true.mp e
    cases z : (l.filter p).map f with
    | nil =>
      rw [List.map_eq_nil_iff, List.filter_eq_nil_iff] at z
      exact absurd h (z x hx)
    | cons _ _ => rfl
  | false =>
    rw [List.any_eq_false] at e
    rw [List.filter_eq_nil_iff.mpr e]
    rfl
theorem shs_at (l : List (Int × Int)) {m x : Nat} (h : x < m) : atI ((List.range m).map fun h => shD l ((h : Nat) : Int)) ((x : Nat) : Int) = some (shD l (x : Nat)) := atI_nat (by rw [List.getElem?_map, List.getElem?_range h]; rfl)
theorem prs_len {n : Nat} (h : n ≤ 5) : (prs n).length ≤ 25 := by
  have : n = 0 ∨ n = 1 ∨ n = 2 ∨ n = 3 ∨ n = 4 ∨ n = 5 := by omega
  rcases this with h | h | h | h | h | h <;> (subst h; decide)
theorem u65_of {k : Nat} {A : Around} (r : Room k A) : A.units + 65 < cLine := by
  have := r.un
  omega
theorem mem_badL_any (l : List (Int × Int)) (i j : Nat) : (((badL l).map encNN).any fun z => PyData.eqv z (.tuple [.int (i : Nat), .int (j : Nat)])) = decide ((i, j) ∈ badL l) := by
  rw [List.any_map]
  have key : ∀ q : Nat × Nat, PyData.eqv (encNN q) (.tuple [.int (i : Nat), .int (j : Nat)]) = decide (q = (i, j)) := fun q => by
    obtain ⟨a, b⟩ := q
    simp only [encNN, PyData.eqv, PyData.eqvAll, Bool.and_true]
    by_cases h1 : a = i
    · by_cases h2 : b = j
      · subst h1; subst h2; simp
      · have : ¬ ((b : Nat) : Int) = (j : Nat) := by omega
        simp [h2, this]
    · have : ¬ ((a : Nat) : Int) = (i : Nat) := by omega
      simp [h1, this]
  cases e : decide ((i, j) ∈ badL l) with
  | true => exact List.any_eq_true.mpr ⟨(i, j), of_decide_eq_true e, by show PyData.eqv _ _ = true; rw [key]; simp⟩
  | false =>
    refine List.any_eq_false.mpr fun q hq z => ?_
    have z : PyData.eqv (encNN q) (.tuple [.int (i : Nat), .int (j : Nat)]) = true := z
    rw [key] at z
    have := of_decide_eq_true z
    subst this
    exact of_decide_eq_false e hq
theorem bad_dec {l : List (Int × Int)} (ok : OkL l) {i j : Nat} {p q : Int × Int} (hp : l[i]? = some p) (hq : l[j]? = some q) : decide ((i, j) ∈ badL l) = (decide (((i : Nat) : Int) < ((j : Nat) : Int)) && clashB p q) := by
  have hj := (List.getElem?_eq_some_iff.mp hq).1
  cases e : clashB p q with
  | true =>
    rw [Bool.and_true]
    by_cases h : i < j
    · rw [decide_eq_true (show ((i : Nat) : Int) < (j : Nat) by omega)]
      exact decide_eq_true ((badL_mem ok).mpr ⟨h, hj, p, q, hp, hq, e⟩)
    · rw [decide_eq_false (show ¬ ((i : Nat) : Int) < (j : Nat) by omega)]
      exact decide_eq_false fun z => h ((badL_mem ok).mp z).1
  | false =>
    rw [Bool.and_false]
    refine decide_eq_false fun z => ?_
    obtain ⟨_, _, p', q', h1, h2, h3⟩ := (badL_mem ok).mp z
    rw [hp] at h1
    rw [hq] at h2
    cases h1
    cases h2
    rw [e] at h3
    cases h3
theorem dark_uniq {l : List (Int × Int)} {m a s a' s' : Int} (h : DarkR l 0 m a s) (h' : DarkR l 0 m a' s') : a = a' ∧ s = s' := by
  obtain ⟨x1, x2, x3, x4⟩ := h
  obtain ⟨y1, y2, y3, y4⟩ := h'
  have e1 := x4 a' y1 y2 s' y3
  have e2 := y4 a x1 x2 s x3
  have : a = a' := by
    rcases Int.lt_trichotomy a a' with z | z | z
    · have := e2.2 z; omega
    · exact z
    · have := e1.2 z; omega
  subst this
  exact ⟨rfl, by omega⟩
theorem dark_some {l : List (Int × Int)} (ok : OkL l) : ∃ a s, DarkR l 0 (cyc l) a s := by
  obtain ⟨c1, _, _, _⟩ := cyc_spec ok.okP
  have key : ∀ n : Nat, 0 < n → ∃ a s, 0 ≤ a ∧ a < (n : Int) ∧ IsRun l a s ∧ ∀ h', 0 ≤ h' → h' < (n : Int) → ∀ t, IsRun l h' t → t ≤ s ∧ (h' < a → t < s) := by
    intro n
    induction n with
    | zero => intro h; omega
    | succ n ih =>
      intro _
      obtain ⟨t, ht⟩ := run_exists ok ((n : Nat) : Int)
      by_cases hn : n = 0
      · subst hn
        refine ⟨0, t, by omega, by omega, ht, fun h' a b t' ht' => ?_⟩
        have : h' = 0 := by omega
        subst this
        have := isRun_uniq ht ht'
        omega
      · obtain ⟨a, s, a0, a1, r, mx⟩ := ih (by omega)
        by_cases hs : s < t
        · refine ⟨(n : Nat), t, by omega, by omega, ht, fun h' b0 b1 t' ht' => ?_⟩
          by_cases z : h' = (n : Nat)
          · subst z
            have := isRun_uniq ht ht'
            omega
          · have := (mx h' b0 (by omega) t' ht').1
            omega
        · refine ⟨a, s, a0, by omega, r, fun h' b0 b1 t' ht' => ?_⟩
          by_cases z : h' = (n : Nat)
          · subst z
            have := isRun_uniq ht ht'
            omega
          · exact mx h' b0 (by omega) t' ht'
  obtain ⟨a, s, h1, h2, h3, h4⟩ := key (cyc l).toNat (by omega)
  exact ⟨a, s, h1, by omega, h3, fun h' b0 b1 t ht => h4 h' b0 (by omega) t ht⟩

end K06
namespace K06
open PySem PySem.Spec PyProof.Rows L2 Fw
section
variable {P : Program} {w : World} {K : PySem.W.Frag} {mg : Str → Option Value} {base : Heap} {CB fI : Addr} {f : Addr} {fd fdI : FuncData} {k : Nat} {T : List (Addr × Str)}
structure Cals (P : Program) (w : World) (K : PySem.W.Frag) (mg : Str → Option Value) (base : Heap) (CB : Addr) (T : List (Addr × Str)) (kk : Nat) : Prop where
  taken : CalR P w K mg base T kk "_law_taken" 1 F_taken
  pick : CalR P w K mg base T kk "_law_pick" 1 F_pick
  lamps : CalR P w K mg base T kk "_law_lamps" 0 F_law_lamps
  lcyc : Cal P w K mg base CB kk "_law_cycle" 1 F_law_cycle
  shines : Cal P w K mg base CB kk "_law_shines" 2 F_law_shines
  ldark : Cal P w K mg base CB kk "_law_dark" 2 F_law_dark
  alike : Cal P w K mg base CB kk "_law_alike" 2 (F_alike 1)
  cycle : Cal P w K mg base CB kk "cycle" 1 F_cycle
  shining : Cal P w K mg base CB kk "shining" 2 F_shining
  shiningK : CalK P w K mg base CB kk "shining" 1 "hour" F_shining
  together : Cal P w K mg base CB kk "together" 1 F_together
  clash : Cal P w K mg base CB kk "clash" 1 F_clash
  is_clash : Cal P w K mg base CB kk "is_clash" 2 F_is_clash
  is_clashK : CalK P w K mg base CB kk "is_clash" 1 "value" F_is_clash
  dark : Cal P w K mg base CB kk "dark" 1 F_dark
  next : Cal P w K mg base CB kk "next_lit" 2 F_next_lit
  hours : Cal P w K mg base CB kk "lit_hours" 2 F_lit_hours
  hoursK : CalK P w K mg base CB kk "lit_hours" 1 "until" F_lit_hours
  at_ : Cal P w K mg base CB kk "lit_at" 2 F_lit_at
theorem CS.mk {i : Int} (h0 : 0 ≤ i) (h1 : i ≤ 1000000) {x : Str} {Qe : Str → Prop} {k : Int → Prop} (h : k i) : CS (.int i) x Qe k := ⟨fun e => by simp [isCountD] at e; omega, fun j e _ _ => by cases e; exact h⟩
theorem simp_ints (l : List Int) (hz : l.length ≤ 1000000) : simpD 1 (.tuple (l.map .int)) = true := by
  unfold simpD
  rw [Bool.and_eq_true, decide_eq_true_eq, List.length_map, List.all_map]
  exact ⟨hz, List.all_eq_true.mpr fun x _ => rfl⟩
theorem idxs_len {α : Type} (p : α → Bool) (l : List α) : (idxs p l).length ≤ l.length := by
  rw [idxs_range, List.length_map]
  have := List.length_filter_le (fun i => (l[i]?).any p) (List.range l.length)
  rw [List.length_range] at this
  exact this
theorem CS.bad {v : PyData} {x : Str} {Qe : Str → Prop} {k : Int → Prop} (h : isCountD v 0 1000000 = false) (q : Qe x) : CS v x Qe k := ⟨fun _ => q, fun i e h0 h1 => by subst e; simp [isCountD] at h; omega⟩
theorem atI_end {α : Type} {xs : List α} (h : xs ≠ []) : atI xs (-1) = some (xs.getLast h) := by
  have := atI_last xs.dropLast (xs.getLast h)
  rwa [List.dropLast_concat_getLast h] at this
theorem last_get {α : Type} {xs : List α} (h : xs ≠ []) : xs[xs.length - 1]? = some (xs.getLast h) := by
  rw [List.getLast_eq_getElem, List.getElem?_eq_getElem]
def wrongs (l : List (Int × Int)) : List PyData := [.none, .tuple [.int 0], .list [.int 0, .int 1], .tuple [.int 0, .int (l.length : Nat)], .tuple [.int (-1), .int 0], .tuple [.bool false, .bool true]]
theorem wrongs_ok (l : List (Int × Int)) (x : PyData) (hx : x ∈ wrongs l) (i j : Nat) (p q : Int × Int) (e : x = .tuple [.int (i : Nat), .int (j : Nat)]) (h1 : l[i]? = some p) (h2 : l[j]? = some q) : (decide (((i : Nat) : Int) < ((j : Nat) : Int)) && clashB p q) = false := by
  exfalso
  subst e
  have g1 := (List.getElem?_eq_some_iff.mp h1).1
  have g2 := (List.getElem?_eq_some_iff.mp h2).1
  unfold wrongs at hx
  rcases List.mem_cons.mp hx with z | hx
  · cases z
  rcases List.mem_cons.mp hx with z | hx
  · injection z with z
    injection z with _ z
    cases z
  rcases List.mem_cons.mp hx with z | hx
  · cases z
  rcases List.mem_cons.mp hx with z | hx
  · injection z with z
    injection z with _ z
    injection z with z _
    injection z with z
    omega
  rcases List.mem_cons.mp hx with z | hx
  · injection z with z
    injection z with z _
    injection z with z
    omega
  rcases List.mem_cons.mp hx with z | hx
  · injection z with z
    injection z with z _
    cases z
  · cases hx
end

end K06
namespace K06
open PySem PySem.Spec PyProof.Rows L2 Fw
section
def odds : List PyData := [.none, .tuple [], .tuple [.tuple [.int 0, .int 0]], .tuple [.tuple [.int 13, .int 0]], .tuple [.tuple [.int 2, .int 2]], .tuple [.tuple [.int 2, .int (-1)]], .list [.tuple [.int 2, .int 0]], .tuple [.tuple [.int 2]], .tuple (List.replicate (6 : Int).toNat [.tuple [.int 1, .int 0]]).flatten, .tuple [.tuple [.bool true, .int 0]]]
theorem odds_bad (d : PyData) (h : d ∈ odds) : areLampsD d = false := by
  unfold odds at h
  simp only [List.mem_cons, List.not_mem_nil, or_false] at h
  rcases h with h | h | h | h | h | h | h | h | h | h <;> rw [h] <;> rfl
def nones : List PyData := [.none, .int (-1), .int 1000001, .bool true]
theorem nones_bad (d : PyData) (h : d ∈ nones) : isCountD d 0 1000000 = false := by
  unfold nones at h
  simp only [List.mem_cons, List.not_mem_nil, or_false] at h
  rcases h with h | h | h | h <;> rw [h] <;> rfl
def tolds : List PyData := (["lamps", "lamps", "hour", "lamps", "lamps", "lamps", "hour", "until", "number", "lamps"] : List Str).map .str
theorem tolds_sh : SeqAt.shaped (.list tolds) = true := strs_shaped _ (by decide +kernel)
theorem tolds_eqv : PyData.eqv (.list tolds) (.list tolds) = true := strs_eqv _
theorem wr_sh (l : List (Int × Int)) : SeqAt.shaped (.list ((wrongs l).map fun _ => PyData.bool false)) = true := by rfl
theorem wr6_sh : SeqAt.shaped (.list (List.replicate (6 : Int).toNat [PyData.bool false]).flatten) = true := by rfl
theorem wr_eqv (l : List (Int × Int)) : PyData.eqv (.list ((wrongs l).map fun _ => PyData.bool false)) (.list (List.replicate (6 : Int).toNat [PyData.bool false]).flatten) = true := by
  first
    | rfl
    | decide +kernel
variable {P : Program} {w : World} {K : PySem.W.Frag} {mg : Str → Option Value} {base : Heap} {CB fI : Addr} {f : Addr} {fd fdI : FuncData} {k : Nat} {T : List (Addr × Str)}
theorem case_tail2 (N : Nm mg) (D : Cals P w K mg base CB T 9) (D7 : Cals P w K mg base CB T 7) {c Pt : Addr} (TB : LamX.TabB base mg c Pt) (RO : RefOk K mg CB "") (hTT : T = [(Pt, (("_law_case" : Str) ++ ".<locals>.") ++ "<lambda>")]) {A : Around} {outer : List Env} {s : Shared} {R : RW} {C : Ct} {H0 : Hp} {E : XK} {Qd : PyData → Prop} (hT : R.T = T) (IR : IsR K R C) (hq : Qd (.bool true))
    (B : BdR (cxOf (L2.CX P w) P w K mg base ["row", "lamps", "many", "shines", "hour", "lit", "own", "every", "whole", "at", "pairs", "one", "two", "bad", "pair", "turn", "later", "wrong", "value", "odd", "none", "told"] "_law_case" (defScope s_law_case) f (.ref c) A outer s H0 E) C 9) {l : List (Int × Int)} (ok : OkL l) {h : Int} (h0 : 0 ≤ h) (h1 : h < 1000) (y : Int) :
    WS (cxOf (L2.CX P w) P w K mg base ["row", "lamps", "many", "shines", "hour", "lit", "own", "every", "whole", "at", "pairs", "one", "two", "bad", "pair", "turn", "later", "wrong", "value", "odd", "none", "told"] "_law_case" (defScope s_law_case) f (.ref c) A outer s H0 E) C
      [.raw (.ref R.row), .dat (encL l), .dat (.int (cyc l)), .dat (.list ((List.range (cyc l).toNat).map fun h => shD l ((h : Nat) : Int))), .dat (.int h), .dat (.list ((litRow l).map .bool)), .dat (.list ((hoursL l h.toNat).map fun x => PyData.int ((x : Nat) : Int))), .dat (.tuple (rngD 0 l.length)), .dat (.list ((wholeL l).map fun h => PyData.int ((h : Nat) : Int))), .any, .dat (.list ((prs l.length).map encNN)), .any, .any, .dat (.list ((badL l).map encNN)), .any, .any, .dat (.int y), .any, .any, .any, .any, .any]
      ((defBody s_law_case).drop 22) ⟨fun _ => Qd .none, rtD K C Qd, fun _ => False, fun _ => False⟩ := by
  have l5 := ok.2.1
  refine ws_cons ?_
  refine @w1_setM _ _ _ _ _ _ _ _ _ _ 17 _ _ _ (wrongs l) (fun d => d) (fun _ => PyData.bool false) _ [18] [("value", 18)] ?_ ?_ (gi_tupD ?_) ?_ (fun x hx s H Cc cl' fp => gg_name 18 sc_law_case.nd) ?_ ?_ ?_ ?_ ?_ ?_ ?_ ?_ ?_
  · rfl
  · exact sc_law_case.nd
  · refine ge_tup ?_ ?_
    · unfold wrongs
      refine ga_cons (ge_lit 5 rfl) ?_
      refine ga_cons ?_ ?_
      · refine ge_lit 5 ?_
        rfl
      refine ga_cons ?_ ?_
      · refine ge_lit 5 ?_
        rfl
      refine ga_cons ?_ ?_
      · refine ge_tup ?_ ?_
        · refine ga_cons ?_ ?_
          · exact ge_int
          · refine ga_cons ?_ ?_
            · exact ge_cast (ge_lenT N.n_len (gr_ge (ge_var 1))) (by rw [encL_len])
            · exact ga_nil
        · rfl
      refine ga_cons ?_ ?_
      · refine ge_lit 5 ?_
        rfl
      refine ga_cons ?_ ?_
      · refine ge_lit 5 ?_
        rfl
      exact ga_nil
    · rfl
  · show 6 ≤ 1000000
    decide
  · exact fun x hx s H Cc cl' fp => ge_gn (gn_call D.is_clash B.room (ga_cons (ge_var 1) (ga_cons (ge_var 18) ga_nil)) rfl ⟨_, _, rfl, LS.mk ok ⟨fun _ => rfl, fun i j p q e h1 h2 => by rw [wrongs_ok l x hx i j p q e h1 h2]⟩⟩)
  rotate_left
  · exact blkOk_by (by kernel_rfl)
  · exact sw_true rfl rfl rfl rfl
  · rfl
  · rfl
  · intro _; rfl
  · rfl
  · rfl
  refine ws_wk (wk_frz 17 rfl) ?_
  refine ws_cons ?_
  refine w1_setN 19 (P := fun d => areLampsD d = false) ?_ ?_ sc_law_case.nd
  · refine gn_pick (ds := odds) IR hT D.pick B.room 0 ?_ ?_ ?_ odds_bad
    · refine ge_lit 6 ?_
      rfl
    · intro h; cases h
    · show 10 ≤ 1000000
      decide
  intro od hod
  refine ws_cons ?_
  refine w1_setN 20 (P := fun d => isCountD d 0 1000000 = false) ?_ ?_ sc_law_case.nd
  · refine gn_pick (ds := nones) IR hT D.pick B.room 0 ?_ ?_ ?_ nones_bad
    · refine ge_lit 6 ?_
      rfl
    · intro h; cases h
    · show 4 ≤ 1000000
      decide
  intro no hno
  have hmT : (Pt, (("_law_case" : Str) ++ ".<locals>.") ++ "<lambda>") ∈ R.T := by
    rw [hT, hTT]
    exact List.mem_cons_self
  have hu : ∀ p ∈ R.T, p.1 = Pt → p.2 = (("_law_case" : Str) ++ ".<locals>.") ++ "<lambda>" := by
    rw [hT, hTT]
    intro p hp _
    rw [List.mem_singleton.mp hp]
  refine ws_cons ?_
  refine w1_setL 21 (ds := tolds) ?_ ?_ sc_law_case.nd
  · refine gl_lst ?_ ?_
    · unfold tolds
      refine ga_cons ?_ ?_
      · exact ge_refused (k := 7) IR RO TB hmT hu B.room fun A outer s H0 E f c' C' hr hE hp hx => gn_callE (Qe := fun z => z = "lamps") (hE ▸ hp) D7.cycle hr (ga_cons (ge_var 19) ga_nil) rfl ⟨_, rfl, LS.bad hod rfl⟩ fun z hz => hz ▸ hx
      refine ga_cons ?_ ?_
      · exact ge_refused (k := 7) IR RO TB hmT hu B.room fun A outer s H0 E f c' C' hr hE hp hx => gn_callE (Qe := fun z => z = "lamps") (hE ▸ hp) D7.shining hr (ga_cons (ge_var 19) (ga_cons (ge_var 20) ga_nil)) rfl ⟨_, _, rfl, LS.bad hod rfl⟩ fun z hz => hz ▸ hx
      refine ga_cons ?_ ?_
      · exact ge_refused (k := 7) IR RO TB hmT hu B.room fun A outer s H0 E f c' C' hr hE hp hx => gn_callE (Qe := fun z => z = "hour") (hE ▸ hp) D7.shining hr (ga_cons (ge_var 1) (ga_cons (ge_var 20) ga_nil)) rfl ⟨_, _, rfl, LS.mk ok (CS.bad hno rfl)⟩ fun z hz => hz ▸ hx
      refine ga_cons ?_ ?_
      · exact ge_refused (k := 7) IR RO TB hmT hu B.room fun A outer s H0 E f c' C' hr hE hp hx => gn_callE (Qe := fun z => z = "lamps") (hE ▸ hp) D7.together hr (ga_cons (ge_var 19) ga_nil) rfl ⟨_, rfl, LS.bad hod rfl⟩ fun z hz => hz ▸ hx
      refine ga_cons ?_ ?_
      · exact ge_refused (k := 7) IR RO TB hmT hu B.room fun A outer s H0 E f c' C' hr hE hp hx => gn_callE (Qe := fun z => z = "lamps") (hE ▸ hp) D7.clash hr (ga_cons (ge_var 19) ga_nil) rfl ⟨_, rfl, LS.bad hod rfl⟩ fun z hz => hz ▸ hx
      refine ga_cons ?_ ?_
      · exact ge_refused (k := 7) IR RO TB hmT hu B.room fun A outer s H0 E f c' C' hr hE hp hx => gn_callE (Qe := fun z => z = "lamps") (hE ▸ hp) D7.dark hr (ga_cons (ge_var 19) ga_nil) rfl ⟨_, rfl, LS.bad hod rfl⟩ fun z hz => hz ▸ hx
      refine ga_cons ?_ ?_
      · exact ge_refused (k := 7) IR RO TB hmT hu B.room fun A outer s H0 E f c' C' hr hE hp hx => gn_callE (Qe := fun z => z = "hour") (hE ▸ hp) D7.next hr (ga_cons (ge_var 1) (ga_cons (ge_var 20) ga_nil)) rfl ⟨_, _, rfl, LS.mk ok (CS.bad hno rfl)⟩ fun z hz => hz ▸ hx
      refine ga_cons ?_ ?_
      · exact ge_refused (k := 7) IR RO TB hmT hu B.room fun A outer s H0 E f c' C' hr hE hp hx => gn_callE (Qe := fun z => z = "until") (hE ▸ hp) D7.hours hr (ga_cons (ge_var 1) (ga_cons (ge_var 20) ga_nil)) rfl ⟨_, _, rfl, LS.mk ok (CS.bad hno rfl)⟩ fun z hz => hz ▸ hx
      refine ga_cons ?_ ?_
      · exact ge_refused (k := 7) IR RO TB hmT hu B.room fun A outer s H0 E f c' C' hr hE hp hx => gn_callE (Qe := fun z => z = "number") (hE ▸ hp) D7.at_ hr (ga_cons (ge_var 1) (ga_cons (ge_var 20) ga_nil)) rfl ⟨_, _, rfl, LS.mk ok (CS.bad hno rfl)⟩ fun z hz => hz ▸ hx
      refine ga_cons ?_ ?_
      · exact ge_refused (k := 7) IR RO TB hmT hu B.room fun A outer s H0 E f c' C' hr hE hp hx => gn_callE (Qe := fun z => z = "lamps") (hE ▸ hp) D7.is_clash hr (ga_cons (ge_var 19) (ga_cons (ge_tup ga_nil) ga_nil)) rfl ⟨_, _, rfl, LS.bad hod rfl⟩ fun z hz => hz ▸ hx
      exact ga_nil
    · rfl
  refine ws_wk (wk_frz 21 rfl) ?_
  refine ws_one (w1_ret (d := .bool true) (ge_cast (ge_and (ge_eqF B.room.units (ge_var 17) (gr_ge (ge_gl (gl_rep (gm_gl (gl_lst (ga_cons ge_bl ga_nil))) ge_int (by decide) (by decide) (by decide)))) (wr_sh l) wr6_sh) fun _ => ge_one (ge_eqF B.room.units (ge_var 21) (gr_ge (ge_gl ?_)) tolds_sh tolds_sh)) ?_) hq)
  · refine gl_lst ?_ ?_
    · unfold tolds
      repeat' refine ga_cons ge_str ?_
      exact ga_nil
    · rfl
  · rw [wr_eqv, tolds_eqv]
    rfl
end

end K06
namespace K06
open PySem PySem.Spec PyProof.Rows L2 Fw
section
variable {P : Program} {w : World} {K : PySem.W.Frag} {mg : Str → Option Value} {base : Heap} {CB fI : Addr} {f : Addr} {fd fdI : FuncData} {k : Nat} {T : List (Addr × Str)}
theorem case_tail (N : Nm mg) (D : Cals P w K mg base CB T 9) (D7 : Cals P w K mg base CB T 7) {c Pt : Addr} (TB : LamX.TabB base mg c Pt) (RO : RefOk K mg CB "") (hTT : T = [(Pt, (("_law_case" : Str) ++ ".<locals>.") ++ "<lambda>")]) {A : Around} {outer : List Env} {s : Shared} {R : RW} {C : Ct} {H0 : Hp} {E : XK} {Qd : PyData → Prop} (hT : R.T = T) (IR : IsR K R C) (hq : Qd (.bool true))
    (B : BdR (cxOf (L2.CX P w) P w K mg base ["row", "lamps", "many", "shines", "hour", "lit", "own", "every", "whole", "at", "pairs", "one", "two", "bad", "pair", "turn", "later", "wrong", "value", "odd", "none", "told"] "_law_case" (defScope s_law_case) f (.ref c) A outer s H0 E) C 9) {l : List (Int × Int)} (ok : OkL l) {h : Int} (h0 : 0 ≤ h) (h1 : h < 1000) :
    WS (cxOf (L2.CX P w) P w K mg base ["row", "lamps", "many", "shines", "hour", "lit", "own", "every", "whole", "at", "pairs", "one", "two", "bad", "pair", "turn", "later", "wrong", "value", "odd", "none", "told"] "_law_case" (defScope s_law_case) f (.ref c) A outer s H0 E) C
      [.raw (.ref R.row), .dat (encL l), .dat (.int (cyc l)), .dat (.list ((List.range (cyc l).toNat).map fun h => shD l ((h : Nat) : Int))), .dat (.int h), .dat (.list ((litRow l).map .bool)), .any, .dat (.tuple (rngD 0 l.length)), .dat (.list ((wholeL l).map fun h => PyData.int ((h : Nat) : Int))), .any, .dat (.list ((prs l.length).map encNN)), .any, .any, .dat (.list ((badL l).map encNN)), .any, .any, .any, .any, .any, .any, .any, .any]
      ((defBody s_law_case).drop 14) ⟨fun _ => Qd .none, rtD K C Qd, fun _ => False, fun _ => False⟩ := by
  obtain ⟨c1, c2, c3, c4⟩ := cyc_spec ok.okP
  have l5 := ok.2.1
  have em : (((cyc l).toNat : Nat) : Int) = cyc l := Int.toNat_of_nonneg (by omega)
  -- dark
  obtain ⟨a, t, hd⟩ := dark_some ok
  refine ws_cons (w1_if (gt_alike D.alike B.room (d := .tuple [.int a, .int t]) (ge_gn (gn_call D.dark B.room (ga_cons (ge_var 1) ga_nil) rfl ⟨_, rfl, LS.mk ok fun x y hxy => by rw [(dark_uniq hxy hd).1, (dark_uniq hxy hd).2]⟩)) (ge_gn (gn_call D.ldark B.room (ga_cons (ge_var 5) (ga_cons (ge_var 2) ga_nil)) rfl ⟨l, rfl, ok, fun x y hxy => by rw [(dark_uniq hxy hd).1, (dark_uniq hxy hd).2]⟩)) rfl) (fun h => by cases h) fun _ => ws_nil ?_)
  -- later
  obtain ⟨T', hT'⟩ := run_exists ok h
  refine ws_cons (w1_set 16 (ge_var 4) ?_ sc_law_case.nd)
  refine ws_cons (w1_while (fun m Γ => ∃ x : Int, 0 ≤ x ∧ x ≤ T' ∧ m = (T' - x).toNat ∧ Γ = [.raw (.ref R.row), .dat (encL l), .dat (.int (cyc l)), .dat (.list ((List.range (cyc l).toNat).map fun h => shD l ((h : Nat) : Int))), .dat (.int h), .dat (.list ((litRow l).map .bool)), .any, .dat (.tuple (rngD 0 l.length)), .dat (.list ((wholeL l).map fun h => PyData.int ((h : Nat) : Int))), .any, .dat (.list ((prs l.length).map encNN)), .any, .any, .dat (.list ((badL l).map encNN)), .any, .any, .dat (.int (h + x)), .any, .any, .any, .any, .any]) T'.toNat B.own ⟨0, by decide, hT'.1, by omega, by rw [Int.add_zero]; rfl⟩ ?_)
  rintro m Γ ⟨x, x0, x1, rfl, rfl⟩
  refine ⟨_, gt_not (gt_val (ge_ixF (ge_var 5) (ge_mod (ge_var 16) (ge_var 2) c1) (litRow_at ok _))), fun hb => ?_, fun hb => ?_⟩
  · have hx : x ≠ T' := fun z => by
      rw [z, hT'.2.2] at hb
      cases hb
    refine ws_one (w1_set 16 (ge_add (ge_var 16) ge_int) ?_ sc_law_case.nd)
    exact ⟨(T' - (x + 1)).toNat, by omega, x + 1, by omega, by omega, rfl, by rw [← Int.add_assoc]; rfl⟩
  have hx : x = T' := by
    rw [Bool.not_eq_false'] at hb
    by_cases z : x < T'
    · have := hT'.2.1 x x0 z
      rw [hb] at this
      cases this
    · omega
  subst hx
  refine ws_cons (w1_if (gt_alike D.alike B.room (ge_gn (gn_call D.next B.room (ga_cons (ge_var 1) (ga_cons (ge_var 4) ga_nil)) rfl ⟨_, _, rfl, LS.mk ok (CS.mk h0 (by omega) fun r ⟨t', ht', e⟩ => by rw [e, isRun_uniq ht' hT'])⟩)) (ge_var 16) rfl) (fun h => by cases h) fun _ => ws_nil ?_)
  -- own
  refine ws_cons (w1_setF 6 (xs := List.range h.toNat) (p := fun x => litAt l ((x : Nat) : Int)) (g := fun x => PyData.int ((x : Nat) : Int)) [("at", 9)] rfl sc_law_case.nd (gi_cast (gi_range1 N.n_range (ge_var 4) (by omega) (by omega)) (rngD_0 _)) (by rw [List.length_range]; omega) (fun x hx s H Cc cl' fp => gg_name 9 sc_law_case.nd) (fun x hx s H Cc cl' fp => gt_val (ge_ixF (ge_var 5) (ge_mod (ge_var 9) (ge_var 2) c1) (litRow_at ok _))) (fun x hx hp s H Cc cl' fp => ge_var 9) ?_)
  have olen : (((hoursL l h.toNat).map fun x => PyData.int ((x : Nat) : Int)).length : Int) = (cntN l h.toNat : Nat) := by rw [List.length_map, hoursL_len]
  have cle : cntN l h.toNat ≤ 1000 := by
    have := List.length_filter_le (fun i => litAt l ((i : Nat) : Int)) (List.range h.toNat)
    rw [cntN_filter, List.length_range] at this
    omega
  refine ws_cons (w1_if (gt_alike D.alike B.room (d := .int (cntN l h.toNat : Nat)) (ge_gn (gn_callK D.hoursK B.room (ga_cons (ge_var 1) ga_nil) (ge_var 4) ⟨_, _, rfl, LS.mk ok (CS.mk h0 (by omega) rfl)⟩)) (ge_cast (ge_lenL N.n_len (gs_own 6)) (by rw [← olen]; rfl)) rfl) (fun h => by cases h) fun _ => ws_nil ?_)
  refine ws_wk (wk_frz 6 rfl) ?_
  have sO : SeqAt.shaped (.list ((hoursL l h.toNat).map fun x => PyData.int ((x : Nat) : Int))) = true := shaped_nbl (n := 1) (nbl_nat (n := 0) _)
  refine ws_cons (w1_if (z := false) (gt_cast (gt_w (gw_and (gt_neF B.room.units (ge_var 6) (gr_ge (ge_gl (gl_lst ga_nil))) sO rfl) fun hz => gw_and1 (p := false) ?_)) (Bool.and_false _)) (fun h => by cases h) fun _ => ws_nil ?_)
  · have hne : hoursL l h.toNat ≠ [] := fun z => by
      have hz : (!PyData.eqv (.list ((hoursL l h.toNat).map fun x => PyData.int ((x : Nat) : Int))) (.list [])) = true := hz
      rw [z] at hz
      exact absurd hz (by rw [List.map_nil, eqv_lnil]; decide)
    have hn0 : 0 < cntN l h.toNat := by rw [← hoursL_len]; exact List.length_pos_iff.mpr hne
    obtain ⟨y1, y2, y3⟩ := hoursL_get l _ _ _ (last_get hne)
    rw [hoursL_len] at y3
    refine gt_alike D.alike B.room (d := .int (((hoursL l h.toNat).getLast hne : Nat) : Int)) (ge_gn (gn_call D.at_ B.room (ga_cons (ge_var 1) (ga_cons (ge_sub (ge_lenL N.n_len (gs_ge (ge_var 6))) ge_int) ga_nil)) rfl ⟨_, _, rfl, LS.mk ok ?_⟩)) (ge_ixF (ge_var 6) (ge_neg ge_int) (atI_map (f := fun x : Nat => PyData.int ((x : Nat) : Int)) (atI_end hne))) rfl
    have e : (((hoursL l h.toNat).map fun x => PyData.int ((x : Nat) : Int)).length : Int) - 1 = ((cntN l h.toNat - 1 : Nat) : Int) := by rw [olen]; omega
    show CS (.int ((((hoursL l h.toNat).map fun x => PyData.int ((x : Nat) : Int)).length : Int) - 1)) _ _ _
    rw [e]
    refine CS.mk (by omega) (by omega) fun r ⟨r0, r1, r2⟩ => ?_
    have : r.toNat = (hoursL l h.toNat).getLast hne := nth_uniq (l := l) (by rw [Int.toNat_of_nonneg r0]; exact r1) y1 (by rw [y3]; omega)
    rw [← this, Int.toNat_of_nonneg r0]
  -- seven cycles
  have e7 : cntN l (cyc l * 7).toNat = 7 * cntN l (cyc l).toNat := by
    have h1 := cntN_add ok.okP (cyc l).toNat em 7 0
    have h2 : (cyc l * 7).toNat = 7 * (cyc l).toNat + 0 := by omega
    rw [h2, h1]
    rfl
  have f7 : ((litRow l).filter fun b => b).length = cntN l (cyc l).toNat := by
    have := row_take l (Nat.le_refl (cyc l).toNat)
    rw [List.take_of_length_le (by rw [List.length_map, List.length_range]; exact Nat.le_refl _)] at this
    unfold litRow
    rw [this, List.length_map, hoursL_len]
  have lr : (litRow l).length ≤ 1000000 := by
    unfold litRow
    rw [List.length_map, List.length_range]
    omega
  refine ws_cons (w1_if (gt_alike D.alike B.room (d := .int (cntN l (cyc l * 7).toNat : Nat)) (ge_gn (gn_call D.hours B.room (ga_cons (ge_var 1) (ga_cons (ge_mul (ge_var 2) ge_int (.inr ⟨by decide, by decide⟩)) ga_nil)) rfl ⟨_, _, rfl, LS.mk ok (CS.mk (by omega) (by omega) rfl)⟩)) (ge_cast (ge_mul ge_int (ge_lenL N.n_len (gs_gl (gl_filI (xs := litRow l) (f := PyData.bool) (p := fun b => b) (g := fun _ => (1 : Int)) [("one", 11)] rfl sc_law_case.nd (gi_list (ge_var 5)) lr (fun x hx s H Cc cl' fp => gg_name 11 sc_law_case.nd) (fun x hx s H Cc cl' fp => gt_val (ge_var 11)) (fun x hx hp s H Cc cl' fp => ge_int)))) (.inl ⟨by decide, by decide⟩)) ?_) rfl) (fun h => by cases h) fun _ => ws_nil ?_)
  · rw [List.length_map, List.length_map, f7, e7]
    push_cast
    rfl
  -- wrong
  show WS _ C [.raw (.ref R.row), .dat (encL l), .dat (.int (cyc l)), .dat (.list ((List.range (cyc l).toNat).map fun h => shD l ((h : Nat) : Int))), .dat (.int h), .dat (.list ((litRow l).map .bool)), .dat (.list ((hoursL l h.toNat).map fun x => PyData.int ((x : Nat) : Int))), .dat (.tuple (rngD 0 l.length)), .dat (.list ((wholeL l).map fun h => PyData.int ((h : Nat) : Int))), .any, .dat (.list ((prs l.length).map encNN)), .any, .any, .dat (.list ((badL l).map encNN)), .any, .any, .dat (.int (h + x)), .any, .any, .any, .any, .any] ((defBody s_law_case).drop 22) _
  refine @case_tail2 _ _ _ _ _ _ _ _ N D D7 _ _ TB RO hTT _ _ _ _ _ _ _ _ hT IR hq B _ ok _ h0 h1 (h + x)
end

end K06
namespace K06
open PySem PySem.Spec PyProof.Rows L2 Fw
section
variable {P : Program} {w : World} {K : PySem.W.Frag} {mg : Str → Option Value} {base : Heap} {CB fI : Addr} {f : Addr} {fd fdI : FuncData} {k : Nat} {T : List (Addr × Str)}
theorem ok_case (N : Nm mg) (D : Cals P w K mg base CB T 9) (D7 : Cals P w K mg base CB T 7) {c Pt : Addr} (Fd : FunDC K "_law_case" "_law_case" (defArgs s_law_case) (defBody s_law_case) (defScope s_law_case) f fd (.ref c)) (TB : LamX.TabB base mg c Pt) (RO : RefOk K mg CB "") (hTT : T = [(Pt, (("_law_case" : Str) ++ ".<locals>.") ++ "<lambda>")]) :
    FnOk P w K mg base (L2.CX P w) 10 f fd ["row"] (spR K T 0 F_case) :=
  def_okRC Fd sc_law_case rfl rfl fun A outer s R C H0 E ds Qd hT IR hl hF B => by
    obtain ⟨rfl, hq⟩ := hF
    refine ws_cons (w1_setN 1 (gn_callR IR hT D.lamps B.room 0 (gan_ga ga_nil) (Qd := fun d => ∃ l, d = encL l ∧ OkL l) (fun es he => by rw [he]; exact ⟨rfl, rfl, fun l ok => ⟨l, rfl, ok⟩⟩)) ?_ sc_law_case.nd)
    rintro _ ⟨l, rfl, ok⟩
    obtain ⟨c1, c2, c3, c4⟩ := cyc_spec ok.okP
    have l5 := ok.2.1
    have em : (((cyc l).toNat : Nat) : Int) = cyc l := Int.toNat_of_nonneg (by omega)
    have mle : (cyc l).toNat ≤ 27720 := by omega
    -- many, shines, lit
    refine ws_cons (w1_set 2 (ge_gn (gn_call D.lcyc B.room (ga_cons (ge_var 1) ga_nil) rfl ⟨l, rfl, ok, rfl⟩)) ?_ sc_law_case.nd)
    refine ws_cons (w1_set 3 (ge_gl (gl_map (xs := List.range (cyc l).toNat) (g := fun h => shD l (h : Nat)) [("hour", 4)] rfl sc_law_case.nd (gi_cast (gi_range1 N.n_range (ge_var 2) (by omega) (by omega)) (rngD_0 _)) (by rw [List.length_range]; omega) (fun h hh s H Cc cl' fp => gg_name 4 sc_law_case.nd) (fun h hh s H Cc cl' fp => ge_cast (ge_gn (gn_call D.shines B.room (ga_cons (ge_var 1) (ga_cons (ge_add (ge_var 4) (ge_var 2)) ga_nil)) rfl ⟨l, _, rfl, ok, by omega, rfl⟩)) (show shD l _ = shD l _ from shD_per ok.okP ⟨1, by omega⟩)))) ?_ sc_law_case.nd)
    refine ws_cons (w1_set 5 (ge_gl (gl_mapB (xs := List.range (cyc l).toNat) (f := fun h => shD l (h : Nat)) (g := fun h => litAt l ((h : Nat) : Int)) [("own", 6)] rfl sc_law_case.nd (gi_list (ge_var 3)) (by rw [List.length_range]; omega) (fun h hh s H Cc cl' fp => gg_name 6 sc_law_case.nd) (fun h hh s H Cc cl' fp => ge_cast (ge_neF B.room.units (ge_var 6) (gr_ge (ge_tup ga_nil)) (shaped_nbl (nbl_shD (n := 0) l _)) rfl) (by rw [shD_ne])))) ?_ sc_law_case.nd)
    refine ws_cons (w1_if (gt_alike D.alike B.room (ge_gn (gn_call D.cycle B.room (ga_cons (ge_var 1) ga_nil) rfl ⟨_, rfl, LS.mk ok rfl⟩)) (ge_var 2) rfl) (fun h => by cases h) fun _ => ws_nil ?_)
    -- hour
    refine ws_cons (w1_setN 4 (gn_gni (P := fun h => 0 ≤ h ∧ h < 1000) (P2 := fun d => ∃ h : Int, d = .int h ∧ 0 ≤ h ∧ h < 1000) (gni_taken IR hT D.taken B.room 0 (gni_gn (P := fun m => m = 20 ∨ m = 1000) (gn_pick (ds := [.int 20, .int 1000]) IR hT D.pick B.room 0 (ge_gl (gl_lst (ga_cons ge_int (ga_cons ge_int ga_nil)))) (fun h => by cases h) (by decide) (fun d hd => by
      simp only [List.mem_cons, List.not_mem_nil, or_false] at hd
      rcases hd with h | h
      · exact ⟨20, h, .inl rfl⟩
      · exact ⟨1000, h, .inr rfl⟩))) (fun m hm => ⟨by omega, by omega, fun r r0 r1 => ⟨r0, by omega⟩⟩)) (fun h hh => ⟨h, rfl, hh⟩)) ?_ sc_law_case.nd)
    rintro _ ⟨h, rfl, h0, h1⟩
    refine ws_cons (w1_if (gt_alike D.alike B.room (ge_gn (gn_callK D.shiningK B.room (ga_cons (ge_var 1) ga_nil) (ge_var 4) ⟨_, _, rfl, LS.mk ok (CS.mk h0 (by omega) rfl)⟩)) (ge_gn (gn_call D.shines B.room (ga_cons (ge_var 1) (ga_cons (ge_var 4) ga_nil)) rfl ⟨l, _, rfl, ok, h0, rfl⟩)) (simp_ints _ (by have := idxs_len (litP h) l; omega))) (fun h => by cases h) fun _ => ws_nil ?_)
    -- every, whole
    refine ws_cons (w1_set 7 (ge_cast (ge_tupRg1 rfl N.n_tuple N.n_range (ge_lenT N.n_len (gr_ge (ge_var 1))) (by omega) (by rw [encL_len]; omega)) (by rw [encL_len]; rfl : _ = PyData.tuple (rngD 0 l.length))) ?_ sc_law_case.nd)
    refine ws_cons (w1_setF 8 (xs := List.range (cyc l).toNat) (p := fun x => allLit l ((x : Nat) : Int)) (g := fun x => PyData.int ((x : Nat) : Int)) [("at", 9)] rfl sc_law_case.nd (gi_cast (gi_range1 N.n_range (ge_var 2) (by omega) (by omega)) (rngD_0 _)) (by rw [List.length_range]; omega) (fun x hx s H Cc cl' fp => gg_name 9 sc_law_case.nd)
      (fun x hx s H Cc cl' fp => gt_cast (gt_eqF B.room.units (ge_ixF (ge_var 3) (ge_var 9) (shs_at l (List.mem_range.mp hx))) (gr_ge (ge_var 7)) (shaped_nbl (nbl_shD (n := 0) l _)) (shaped_nbl (n := 1) (show nbl 1 (.tuple (rngD 0 l.length)) = true from nbl_rng (n := 0) 0 _))) (shD_every l _)) (fun x hx hp s H Cc cl' fp => ge_var 9) ?_)
    refine ws_wk (wk_frz 8 rfl) ?_
    have sW : SeqAt.shaped (.list ((wholeL l).map fun h => PyData.int ((h : Nat) : Int))) = true := shaped_nbl (n := 1) (nbl_nat (n := 0) _)
    refine ws_cons (w1_if (gt_alike D.alike B.room (ge_gn (gn_call D.together B.room (ga_cons (ge_var 1) ga_nil) rfl ⟨_, rfl, LS.mk ok fun d hd => tog_uniq ok hd⟩)) (ge_iteP (gt_neF B.room.units (ge_var 8) (gr_ge (ge_gl (gl_lst ga_nil))) sW rfl) (fun hz => ge_cast (ge_ixF (ge_var 8) ge_int (head_t hz)) (dueT_h l).symm) (fun hz => ge_cast ge_non ((dueT_h l).trans (head_f hz)).symm)) (simp_dueT l)) (fun h => by cases h) fun _ => ws_nil ?_)
    -- pairs, bad
    refine ws_cons (w1_setM2 10 (xs := List.range l.length) (f := fun i => PyData.int ((i : Nat) : Int)) (p1 := fun _ => true) (ys := fun _ => List.range l.length) (f1 := fun i => PyData.int ((i : Nat) : Int)) (p2 := fun i j => decide (((i : Nat) : Int) < ((j : Nat) : Int))) (g := fun i j => encNN (i, j)) (vs1 := [12]) [("one", 11), ("two", 12)] 5 5 rfl sc_law_case.nd (gi_cast (gi_tup (ge_var 7)) (rngD_0 _)) (by rw [List.length_range]; omega) (fun _ _ => by rw [List.length_range]; omega) (by decide)
      (fun i hi s H Cc cl' fp => gg_name 11 sc_law_case.nd) (fun i hi s H Cc cl' fp => gts_nil) (fun i hi _ s H Cc cl' fp => gi_cast (gi_tup (ge_var 7)) (rngD_0 _)) (fun i hi => rfl) (fun i hi _ j hj s H Cc cl' fp => gg_name 12 sc_law_case.nd) (fun i hi _ j hj s H Cc cl' fp => gts_one (gt_lt (ge_var 11) (ge_var 12))) (fun i hi _ j hj _ s H Cc cl' fp => ge_tup (ga_cons (ge_var 11) (ga_cons (ge_var 12) ga_nil))) ?_)
    rw [out2_prs]
    refine ws_wk (wk_frz 10 rfl) ?_
    have u65 := u65_of B.room
    refine ws_cons (w1_setF 13 (xs := prs l.length) (f := encNN) (p := fun q => !comm l q) (g := encNN) [("pair", 14)] rfl sc_law_case.nd (gi_list (ge_var 10)) (by have := prs_len l5; omega) (fun q hq s H Cc cl' fp => gg_name 14 sc_law_case.nd)
      (fun q hq s H Cc cl' fp => gt_cast (gt_eqF B.room.units (ge_gl (gl_fil (xs := List.range (cyc l).toNat) (f := fun h => shD l ((h : Nat) : Int)) (p := fun h => litI l ((h : Nat) : Int) q.1 && litI l ((h : Nat) : Int) q.2) (g := fun h => shD l ((h : Nat) : Int)) [("own", 6)] rfl sc_law_case.nd (gi_list (ge_var 3)) (by rw [List.length_range]; omega) (fun h hh s H Cc cl' fp => gg_name 6 sc_law_case.nd)
          (fun h hh s H Cc cl' fp => gt_w (gw_and (gt_cast (gt_inT (ds := (idxs (litP ((h : Nat) : Int)) l).map .int) u65 (ge_ixT (ge_var 14) ge_int (atI_nat (j := 0) rfl)) (gr_ge (ge_var 6)) rfl (shaped_nbl (n := 1) (nbl_ints (n := 0) _))) (shD_in l _ q.1)) fun _ => gw_and1 (gt_cast (gt_inT (ds := (idxs (litP ((h : Nat) : Int)) l).map .int) u65 (ge_ixT (ge_var 14) ge_int (atI_nat (j := 1) rfl)) (gr_ge (ge_var 6)) rfl (shaped_nbl (n := 1) (nbl_ints (n := 0) _))) (shD_in l _ q.2))))
          (fun h hh _ s H Cc cl' fp => ge_var 6))) (gr_ge (ge_gl (gl_lst ga_nil))) (shaped_nbl (n := 2) (nbl_shs (n := 0) l _)) rfl) (by rw [eqv_lnil, isEmpty_filter]; rfl)) (fun q hq _ s H Cc cl' fp => ge_var 14) ?_)
    refine ws_wk (wk_frz 13 rfl) ?_
    have sB : SeqAt.shaped (.list ((badL l).map encNN)) = true := shaped_nbl (n := 2) (nbl_NN (n := 0) _)
    refine ws_cons (w1_if (z := false) (gt_cast (gt_w (gw_or (gt_alike D.alike B.room (ge_gn (gn_call D.clash B.room (ga_cons (ge_var 1) ga_nil) rfl ⟨_, rfl, LS.mk ok fun d hd => clash_uniq ok hd⟩)) (ge_iteP (gt_neF B.room.units (ge_var 13) (gr_ge (ge_gl (gl_lst ga_nil))) sB rfl) (fun hz => ge_cast (ge_ixF (ge_var 13) ge_int (head_t hz)) (dueC_h l).symm) (fun hz => ge_cast ge_non ((dueC_h l).trans (head_f hz)).symm)) (simp_dueC l)) fun _ => gw_or1 (gt_neB (ge_eqF B.room.units (ge_var 13) (gr_ge (ge_gl (gl_lst ga_nil))) sB rfl) (ge_neF B.room.units (ge_var 8) (gr_ge (ge_gl (gl_lst ga_nil))) sW rfl)))) ?_) (fun h => by cases h) fun _ => ws_nil ?_)
    · have e1 : PyData.eqv (.list ((badL l).map encNN)) (.list []) = decide (badL l = []) := by rw [eqv_lnil]; cases badL l <;> rfl
      have e2 : (!PyData.eqv (.list ((wholeL l).map fun h => PyData.int ((h : Nat) : Int))) (.list [])) = !decide (wholeL l = []) := by rw [eqv_lnil]; cases wholeL l <;> rfl
      show (false || !decide (PyData.eqv (.list ((badL l).map encNN)) (.list []) = !PyData.eqv (.list ((wholeL l).map fun h => PyData.int ((h : Nat) : Int))) (.list []))) = false
      rw [e1, e2, bad_whole ok]
      simp
    -- four pairs
    refine ws_cons (w1_forW (fun _ Γ => Γ = [.raw (.ref R.row), .dat (encL l), .dat (.int (cyc l)), .dat (.list ((List.range (cyc l).toNat).map fun h => shD l ((h : Nat) : Int))), .dat (.int h), .dat (.list ((litRow l).map .bool)), .any, .dat (.tuple (rngD 0 l.length)), .dat (.list ((wholeL l).map fun h => PyData.int ((h : Nat) : Int))), .any, .dat (.list ((prs l.length).map encNN)), .any, .any, .dat (.list ((badL l).map encNN)), .any, .any, .any, .any, .any, .any, .any, .any]) B.own rfl (gi_range1 N.n_range ge_int (by decide) (by decide)) rfl ?_ ?_)
    · rintro i d Γ1 hd rfl
      refine ⟨_, _, gg_name 15 sc_law_case.nd, ?_⟩
      have dr : ∀ {X : Cx} {Γ : List Slot}, True := trivial
      refine ws_cons (w1_setN 14 (P := fun d => ∃ a b : Nat, a < l.length ∧ b < l.length ∧ d = .tuple [.int (a : Nat), .int (b : Nat)]) (gn_tup (Ps := consP (fun d => ∃ a : Nat, a < l.length ∧ d = .int (a : Nat)) (consP (fun d => ∃ a : Nat, a < l.length ∧ d = .int (a : Nat)) nilP))
        (gan_cons (gn_gni (P := fun r => 0 ≤ r ∧ r < (l.length : Int)) (gni_taken IR hT D.taken B.room 0 (gni_ge (P := fun m => m = (l.length : Int)) (ge_cast (ge_lenT N.n_len (gr_ge (ge_var 1))) (by rw [encL_len])) rfl) (fun m hm => by subst hm; have := ok.1; exact ⟨by omega, by omega, fun r r0 r1 => ⟨r0, r1⟩⟩)) (fun r hr => ⟨r.toNat, by omega, by rw [Int.toNat_of_nonneg hr.1]⟩))
          (gan_cons (gn_gni (P := fun r => 0 ≤ r ∧ r < (l.length : Int)) (gni_taken IR hT D.taken B.room 0 (gni_ge (P := fun m => m = (l.length : Int)) (ge_cast (ge_lenT N.n_len (gr_ge (ge_var 1))) (by rw [encL_len])) rfl) (fun m hm => by subst hm; have := ok.1; exact ⟨by omega, by omega, fun r r0 r1 => ⟨r0, r1⟩⟩)) (fun r hr => ⟨r.toNat, by omega, by rw [Int.toNat_of_nonneg hr.1]⟩)) gan_nil))
        (fun ds h => by
            match ds, h with
            | [_, _], _ => exact Nat.le_of_ble_eq_true rfl
            | _ :: _ :: _ :: _, ⟨_, _, h⟩ => exact h.elim
            | [_], ⟨_, h⟩ => exact h.elim
            | [], h => exact h.elim) (fun ds h => by
            match ds, h with
            | [_, _], ⟨⟨a, ha, rfl⟩, ⟨b, hb, rfl⟩, _⟩ => exact ⟨a, b, ha, hb, rfl⟩
            | _ :: _ :: _ :: _, ⟨_, _, h⟩ => exact h.elim
            | [_], ⟨_, h⟩ => exact h.elim
            | [], h => exact h.elim)) ?_ sc_law_case.nd)
      rintro _ ⟨a, b, ha, hb, rfl⟩
      obtain ⟨p, hp⟩ : ∃ p, l[a]? = some p := ⟨_, List.getElem?_eq_getElem ha⟩
      obtain ⟨q, hq'⟩ : ∃ q, l[b]? = some q := ⟨_, List.getElem?_eq_getElem hb⟩
      refine ws_one (w1_if (z := false) (gt_cast (gt_notB (ge_gn (gn_callK D.is_clashK B.room (ga_cons (ge_var 1) ga_nil) (ge_var 14) (Qd := fun z => z = .bool (decide (((a : Nat) : Int) < ((b : Nat) : Int)) && clashB p q)) ⟨_, _, rfl, LS.mk ok ⟨fun z => ?_, fun i j p' q' e h1 h2 => ?_⟩⟩)) (ge_inD u65 (ge_var 14) (gr_ge (ge_var 13)) rfl sB)) ?_) (fun h => by cases h) fun _ => ws_nil ⟨_, (wk_any 14).trans (wk_any 15), rfl⟩)
      · have : idxPair l (.tuple [.int (a : Nat), .int (b : Nat)]) = true := by
          simp only [idxPair, isListD, tupOf, isCountD, List.all_cons, List.all_nil, List.length_cons, List.length_nil, Bool.and_true, Bool.and_eq_true, decide_eq_true_eq]
          omega
        rw [this] at z
        cases z
      · injection e with e
        injection e with e1 e2
        injection e2 with e2 _
        injection e1 with e1
        injection e2 with e2
        have e1 : a = i := by omega
        have e2 : b = j := by omega
        subst e1
        subst e2
        rw [hp] at h1
        rw [hq'] at h2
        cases h1
        cases h2
        rfl
      · rw [mem_badL_any, bad_dec ok hp hq']
        simp
    rintro Γ' rfl
    exact case_tail N D D7 TB RO hTT hT IR hq B ok h0 h1
end

end K06
namespace K06
open PySem PySem.Spec PyProof.Rows L2 Fw
abbrev s_BadArgument_init_ : Stmt := inClass (top 1) 0
def d_expect : He.DefD := ⟨("expect", none), "expect", "expect", defArgs s_expect, defBody s_expect, defScope s_expect, [], []⟩
def d_is_count : He.DefD := ⟨("is_count", none), "is_count", "is_count", defArgs s_is_count, defBody s_is_count, defScope s_is_count, [], []⟩
def d_is_list : He.DefD := ⟨("is_list", none), "is_list", "is_list", defArgs s_is_list, defBody s_is_list, defScope s_is_list, [], []⟩
def d_shared : He.DefD := ⟨("shared", none), "shared", "shared", defArgs s_shared, defBody s_shared, defScope s_shared, [], []⟩
def d_are_lamps : He.DefD := ⟨("are_lamps", none), "are_lamps", "are_lamps", defArgs s_are_lamps, defBody s_are_lamps, defScope s_are_lamps, [], []⟩
def d_cycle : He.DefD := ⟨("cycle", none), "cycle", "cycle", defArgs s_cycle, defBody s_cycle, defScope s_cycle, [], []⟩
def d_shining : He.DefD := ⟨("shining", none), "shining", "shining", defArgs s_shining, defBody s_shining, defScope s_shining, [], []⟩
def d_together : He.DefD := ⟨("together", none), "together", "together", defArgs s_together, defBody s_together, defScope s_together, [], []⟩
def d_clash : He.DefD := ⟨("clash", none), "clash", "clash", defArgs s_clash, defBody s_clash, defScope s_clash, [], []⟩
def d_is_clash_of : He.DefD := ⟨("is_clash_of", none), "is_clash_of", "is_clash_of", defArgs s_is_clash_of, defBody s_is_clash_of, defScope s_is_clash_of, [], []⟩
def d_is_clash : He.DefD := ⟨("is_clash", none), "is_clash", "is_clash", defArgs s_is_clash, defBody s_is_clash, defScope s_is_clash, [], []⟩
def d_lit_row : He.DefD := ⟨("lit_row", none), "lit_row", "lit_row", defArgs s_lit_row, defBody s_lit_row, defScope s_lit_row, [], []⟩
def d_dark : He.DefD := ⟨("dark", none), "dark", "dark", defArgs s_dark, defBody s_dark, defScope s_dark, [], []⟩
def d_next_lit : He.DefD := ⟨("next_lit", none), "next_lit", "next_lit", defArgs s_next_lit, defBody s_next_lit, defScope s_next_lit, [], []⟩
def d_lit_hours : He.DefD := ⟨("lit_hours", none), "lit_hours", "lit_hours", defArgs s_lit_hours, defBody s_lit_hours, defScope s_lit_hours, [], []⟩
def d_lit_at : He.DefD := ⟨("lit_at", none), "lit_at", "lit_at", defArgs s_lit_at, defBody s_lit_at, defScope s_lit_at, [], []⟩
def d_law_taken : He.DefD := ⟨("_law_taken", none), "_law_taken", "_law_taken", defArgs s_law_taken, defBody s_law_taken, defScope s_law_taken, [], []⟩
def d_law_pick : He.DefD := ⟨("_law_pick", none), "_law_pick", "_law_pick", defArgs s_law_pick, defBody s_law_pick, defScope s_law_pick, [], []⟩
def d_law_refused : He.DefD := ⟨("_law_refused", none), "_law_refused", "_law_refused", defArgs s_law_refused, defBody s_law_refused, defScope s_law_refused, [], []⟩
def d_law_alike : He.DefD := ⟨("_law_alike", none), "_law_alike", "_law_alike", defArgs s_law_alike, defBody s_law_alike, defScope s_law_alike, [], []⟩
def d_law_lamps : He.DefD := ⟨("_law_lamps", none), "_law_lamps", "_law_lamps", defArgs s_law_lamps, defBody s_law_lamps, defScope s_law_lamps, [], []⟩
def d_law_cycle : He.DefD := ⟨("_law_cycle", none), "_law_cycle", "_law_cycle", defArgs s_law_cycle, defBody s_law_cycle, defScope s_law_cycle, [], []⟩
def d_law_shines : He.DefD := ⟨("_law_shines", none), "_law_shines", "_law_shines", defArgs s_law_shines, defBody s_law_shines, defScope s_law_shines, [], []⟩
def d_law_dark : He.DefD := ⟨("_law_dark", none), "_law_dark", "_law_dark", defArgs s_law_dark, defBody s_law_dark, defScope s_law_dark, [], []⟩
def d_law_case : He.DefD := ⟨("_law_case", none), "_law_case", "_law_case", defArgs s_law_case, defBody s_law_case, defScope s_law_case, [], []⟩
def d_law : He.DefD := ⟨("law", none), "law", "law", defArgs s_law, defBody s_law, defScope s_law, [], []⟩
def d_BadArgument_init_ : He.DefD := ⟨("BadArgument", some "__init__"), "__init__", "BadArgument.__init__", defArgs s_BadArgument_init_, defBody s_BadArgument_init_, defScope s_BadArgument_init_, [], []⟩
def fn : List He.DefD := [d_expect, d_is_count, d_is_list, d_shared, d_are_lamps, d_cycle, d_shining, d_together, d_clash, d_is_clash_of, d_is_clash, d_lit_row, d_dark, d_next_lit, d_lit_hours, d_lit_at, d_law_taken, d_law_pick, d_law_refused, d_law_alike, d_law_lamps, d_law_cycle, d_law_shines, d_law_dark, d_law_case, d_law, d_BadArgument_init_]
def fa : List He.Fa := [.glo "expect", .glo "is_count", .glo "is_list", .glo "shared", .glo "are_lamps", .glo "cycle", .glo "shining", .glo "together", .glo "clash", .glo "is_clash_of", .glo "is_clash", .glo "lit_row", .glo "dark", .glo "next_lit", .glo "lit_hours", .glo "lit_at", .glo "_law_taken", .glo "_law_pick", .glo "_law_refused", .glo "_law_alike", .glo "_law_lamps", .glo "_law_cycle", .glo "_law_shines", .glo "_law_dark", .glo "_law_case", .glo "law", .glo "BadArgument", .int "MOST_LAMPS" 5, .int "MOST_PERIOD" 12, .int "MOST_HOUR" 1000000, .free "ValueError", .free "all", .free "any", .free "bool", .free "enumerate", .free "int", .free "isinstance", .free "len", .free "min", .free "range", .free "str", .free "sum", .free "tuple"]
def tf : List He.Defn := [("_law_case", none)]
def oexB (K : PySem.W.Frag) (C : Addr) : Bool := match K.lookup C with
  | some ⟨.type "type", _, .cls cd, sl⟩ => (match cd.mro, sl.toList with
    | .ref C' :: bm, [_, _, _, _, some (.builtin n), _] => C' == C && n == "ValueError.__new__" && !cd.hasDel && cd.hasDict && PySem.HandSPX.refsVE bm
    | _, _ => false)
  | _ => false
/-- what is told of the exception's class -/
def exB (K : PySem.W.Frag) : Bool :=
  oexB K (He.ga K "BadArgument") &&
  decide (PySem.W.findIn K (.ref (He.ga K "BadArgument")) "__setattr__" = some (some (.builtin "object.__setattr__"))) &&
  decide (PySem.W.subIn K (.ref (He.ga K "BadArgument")) (.type "BaseException") = some true) &&
  decide (PySem.W.typeIn K (.ref (He.ga K "BadArgument")) = some (.type "type")) &&
  PySem.W.keepIn K (.ref (He.ga K "BadArgument")) &&
  decide (PySem.W.findIn K (.ref (He.ga K "BadArgument")) "__init__" = some (some (.ref (He.ma K (He.ga K "BadArgument") "__init__")))) &&
  decide (PySem.W.typeIn K (.ref (He.ma K (He.ga K "BadArgument") "__init__")) = some (.type "function")) &&
  decide (PySem.W.findIn K (.ref (He.ga K "BadArgument")) "name" = some none) &&
  xfB K (He.ga K "BadArgument") && decide (PySem.W.exmOne K (.ref (He.ga K "BadArgument")) (.ref (He.ga K "BadArgument")) = some true)
abbrev R : PySem.W.OpenRow := PySem.W.OpenLaw.row PySem.Challenge.rw_watchedbeach_k06_whole_lamps_of_shores
abbrev hk : PySem.W.Hook := He.hookX 5 fa fn [] tf exB
def ob (s : PySem.W.SharedT) : He.AlX := He.obsX 5 fa fn [] tf exB (HandSHeadRun.getT s)
theorem ob_eq (s : PySem.W.SharedT) : ob s = hk.obs s.abs := He.obsX_eq (HandSHeadRun.getT_eq s)
def loose : List Str := ["BadArgument", "expect", "is_count", "is_list", "shared", "MOST_LAMPS", "MOST_PERIOD", "MOST_HOUR", "are_lamps", "cycle", "shining", "together", "clash", "is_clash_of", "is_clash", "lit_row", "dark", "next_lit", "lit_hours", "lit_at", "_law_taken", "_law_pick", "_law_refused", "_law_alike", "_law_lamps", "_law_cycle", "_law_shines", "_law_dark", "_law_case"]
theorem run (w : World) : HandSHeadRun.RunEq R (PySem.W.view R.prog [33]) hk ob 1500 loose w := by
  intro os
  kernel_rfl
abbrev PR : Program := (PySem.Challenge.rw_watchedbeach_k06_whole_lamps_of_shores).prog
section
variable {w : World} {K : PySem.W.Frag} {mg : Str → Option Value}
theorem nm_of {h : Heap} (X : K.In h) (G : h.Ns mainGlobals mg) (c : He.SaysD fa fn K) : Nm mg where
  n_ValueError := He.free_ok X G (c.fact 30 (f := .free "ValueError") rfl)
  n_all := He.free_ok X G (c.fact 31 (f := .free "all") rfl)
  n_any := He.free_ok X G (c.fact 32 (f := .free "any") rfl)
  n_bool := He.free_ok X G (c.fact 33 (f := .free "bool") rfl)
  n_enumerate := He.free_ok X G (c.fact 34 (f := .free "enumerate") rfl)
  n_int := He.free_ok X G (c.fact 35 (f := .free "int") rfl)
  n_isinstance := He.free_ok X G (c.fact 36 (f := .free "isinstance") rfl)
  n_len := He.free_ok X G (c.fact 37 (f := .free "len") rfl)
  n_min := He.free_ok X G (c.fact 38 (f := .free "min") rfl)
  n_range := He.free_ok X G (c.fact 39 (f := .free "range") rfl)
  n_str := He.free_ok X G (c.fact 40 (f := .free "str") rfl)
  n_sum := He.free_ok X G (c.fact 41 (f := .free "sum") rfl)
  n_tuple := He.free_ok X G (c.fact 42 (f := .free "tuple") rfl)
  i_MOST_LAMPS := He.int_ok X G (c.fact 27 (f := .int "MOST_LAMPS" 5) rfl)
  i_MOST_PERIOD := He.int_ok X G (c.fact 28 (f := .int "MOST_PERIOD" 12) rfl)
  i_MOST_HOUR := He.int_ok X G (c.fact 29 (f := .int "MOST_HOUR" 1000000) rfl)
theorem oexB_ok {C : Addr} (h : oexB K C = true) : ∃ nm q N bs bm sn sub ab col dd k0 k1 k2 k3 k5, K.lookup C = some (excClassObj nm q C N bs bm true sn sub ab col dd k0 k1 k2 k3 k5 "ValueError.__new__") ∧ PySem.HandSPX.refsVE bm = true := by
  unfold oexB at h
  split at h
  · rename_i dd cd sl e
    obtain ⟨a1, a2, a3, a4, a5, a6, a7, a8, a9, a10, a11⟩ := cd
    simp only at h
    split at h
    · rename_i C' bm k0 k1 k2 k3 n k5 e2
      simp only [Bool.and_eq_true, beq_iff_eq, Bool.not_eq_true'] at h
      obtain ⟨⟨⟨⟨rfl, rfl⟩, h3⟩, h4⟩, h5⟩ := h
      have e2 : sl = #[k0, k1, k2, k3, some (.builtin "ValueError.__new__"), k5] := by rw [← Array.toList_inj]; exact e2
      subst e2 h3 h4
      exact ⟨_, _, _, _, bm, _, _, _, _, _, _, _, _, _, _, e, h5⟩
    · cases h
  · cases h
theorem bad_of {h : Heap} (X : K.In h) (G : h.Ns mainGlobals mg) (c : He.SaysD fa fn K) (e : exB K = true) : BadOk K mg (He.ga K "BadArgument") (He.ma K (He.ga K "BadArgument") "__init__") := by
  unfold exB at e
  simp only [Bool.and_eq_true, decide_eq_true_eq] at e
  obtain ⟨⟨⟨⟨⟨⟨⟨⟨⟨e1, e2⟩, e3⟩, e4⟩, e5⟩, e6⟩, e7⟩, e8⟩, e9⟩, e10⟩ := e
  exact ⟨He.glo_ok X G (c.fact 26 (f := .glo "BadArgument") rfl), ⟨oexB_ok e1, e2, e3, e4, e5⟩, e8, e6, e7, xfB_ok e9, e10⟩
def tabT (K : PySem.W.Frag) : List (Addr × Str) := [((He.cT K ("_law_case", none)).2, (("_law_case" : Str) ++ ".<locals>.") ++ "<lambda>")]
theorem facts {h : Heap} {fl : Addr} (X : K.In h) (G : h.Ns mainGlobals mg) (hfa : mg ("law" : Str) = some (.ref fl)) (c : He.SaysX fa fn [] tf exB w h K) : LamX.LawAtS PySem.Challenge.rw_watchedbeach_k06_whole_lamps_of_shores w K (L2.CX PR w) 11 63 "script" mg fl h := by
  have D := c.t.d
  have N := nm_of X G D
  have BO := bad_of X G D c.more
  obtain ⟨fi, Fi⟩ := D.def_ 26 (d := d_BadArgument_init_) rfl
  obtain ⟨f_expect, D_expect⟩ := D.def_ 0 (d := d_expect) rfl
  have Fd_expect : FnP K "expect" s_expect (He.ga K "expect") f_expect := D_expect
  have g_expect : mg "expect" = some (.ref (He.ga K "expect")) := He.glo_ok X G (D.fact 0 (f := .glo "expect") rfl)
  have b_expect : L2.Binds K f_expect ["is_right", "name"] [] := Fd_expect.bindsN fun _ _ _ _ _ _ us hl => match us, hl with | [_, _], _ => rfl
  obtain ⟨f_is_count, D_is_count⟩ := D.def_ 1 (d := d_is_count) rfl
  have Fd_is_count : FnP K "is_count" s_is_count (He.ga K "is_count") f_is_count := D_is_count
  have g_is_count : mg "is_count" = some (.ref (He.ga K "is_count")) := He.glo_ok X G (D.fact 1 (f := .glo "is_count") rfl)
  have b_is_count : L2.Binds K f_is_count ["value", "low", "high"] [] := Fd_is_count.bindsN fun _ _ _ _ _ _ us hl => match us, hl with | [_, _, _], _ => rfl
  obtain ⟨f_is_list, D_is_list⟩ := D.def_ 2 (d := d_is_list) rfl
  have Fd_is_list : FnP K "is_list" s_is_list (He.ga K "is_list") f_is_list := D_is_list
  have g_is_list : mg "is_list" = some (.ref (He.ga K "is_list")) := He.glo_ok X G (D.fact 2 (f := .glo "is_list") rfl)
  have b_is_list : L2.Binds K f_is_list ["value", "low", "high"] [] := Fd_is_list.bindsN fun _ _ _ _ _ _ us hl => match us, hl with | [_, _, _], _ => rfl
  obtain ⟨f_shared, D_shared⟩ := D.def_ 3 (d := d_shared) rfl
  have Fd_shared : FnP K "shared" s_shared (He.ga K "shared") f_shared := D_shared
  have g_shared : mg "shared" = some (.ref (He.ga K "shared")) := He.glo_ok X G (D.fact 3 (f := .glo "shared") rfl)
  have b_shared : L2.Binds K f_shared ["one", "other"] [] := Fd_shared.bindsN fun _ _ _ _ _ _ us hl => match us, hl with | [_, _], _ => rfl
  obtain ⟨f_are_lamps, D_are_lamps⟩ := D.def_ 4 (d := d_are_lamps) rfl
  have Fd_are_lamps : FnP K "are_lamps" s_are_lamps (He.ga K "are_lamps") f_are_lamps := D_are_lamps
  have g_are_lamps : mg "are_lamps" = some (.ref (He.ga K "are_lamps")) := He.glo_ok X G (D.fact 4 (f := .glo "are_lamps") rfl)
  have b_are_lamps : L2.Binds K f_are_lamps ["value"] [] := Fd_are_lamps.bindsN fun _ _ _ _ _ _ us hl => match us, hl with | [_], _ => rfl
  obtain ⟨f_cycle, D_cycle⟩ := D.def_ 5 (d := d_cycle) rfl
  have Fd_cycle : FnP K "cycle" s_cycle (He.ga K "cycle") f_cycle := D_cycle
  have g_cycle : mg "cycle" = some (.ref (He.ga K "cycle")) := He.glo_ok X G (D.fact 5 (f := .glo "cycle") rfl)
  have b_cycle : L2.Binds K f_cycle ["lamps"] [] := Fd_cycle.bindsN fun _ _ _ _ _ _ us hl => match us, hl with | [_], _ => rfl
  obtain ⟨f_shining, D_shining⟩ := D.def_ 6 (d := d_shining) rfl
  have Fd_shining : FnP K "shining" s_shining (He.ga K "shining") f_shining := D_shining
  have g_shining : mg "shining" = some (.ref (He.ga K "shining")) := He.glo_ok X G (D.fact 6 (f := .glo "shining") rfl)
  have b_shining : L2.Binds K f_shining ["lamps", "hour"] [] := Fd_shining.bindsN fun _ _ _ _ _ _ us hl => match us, hl with | [_, _], _ => rfl
  obtain ⟨f_is_clash_of, D_is_clash_of⟩ := D.def_ 9 (d := d_is_clash_of) rfl
  have Fd_is_clash_of : FnP K "is_clash_of" s_is_clash_of (He.ga K "is_clash_of") f_is_clash_of := D_is_clash_of
  have g_is_clash_of : mg "is_clash_of" = some (.ref (He.ga K "is_clash_of")) := He.glo_ok X G (D.fact 9 (f := .glo "is_clash_of") rfl)
  have b_is_clash_of : L2.Binds K f_is_clash_of ["one", "other"] [] := Fd_is_clash_of.bindsN fun _ _ _ _ _ _ us hl => match us, hl with | [_, _], _ => rfl
  obtain ⟨f_together, D_together⟩ := D.def_ 7 (d := d_together) rfl
  have Fd_together : FnP K "together" s_together (He.ga K "together") f_together := D_together
  have g_together : mg "together" = some (.ref (He.ga K "together")) := He.glo_ok X G (D.fact 7 (f := .glo "together") rfl)
  have b_together : L2.Binds K f_together ["lamps"] [] := Fd_together.bindsN fun _ _ _ _ _ _ us hl => match us, hl with | [_], _ => rfl
  obtain ⟨f_clash, D_clash⟩ := D.def_ 8 (d := d_clash) rfl
  have Fd_clash : FnP K "clash" s_clash (He.ga K "clash") f_clash := D_clash
  have g_clash : mg "clash" = some (.ref (He.ga K "clash")) := He.glo_ok X G (D.fact 8 (f := .glo "clash") rfl)
  have b_clash : L2.Binds K f_clash ["lamps"] [] := Fd_clash.bindsN fun _ _ _ _ _ _ us hl => match us, hl with | [_], _ => rfl
  obtain ⟨f_is_clash, D_is_clash⟩ := D.def_ 10 (d := d_is_clash) rfl
  have Fd_is_clash : FnP K "is_clash" s_is_clash (He.ga K "is_clash") f_is_clash := D_is_clash
  have g_is_clash : mg "is_clash" = some (.ref (He.ga K "is_clash")) := He.glo_ok X G (D.fact 10 (f := .glo "is_clash") rfl)
  have b_is_clash : L2.Binds K f_is_clash ["lamps", "value"] [] := Fd_is_clash.bindsN fun _ _ _ _ _ _ us hl => match us, hl with | [_, _], _ => rfl
  obtain ⟨f_lit_row, D_lit_row⟩ := D.def_ 11 (d := d_lit_row) rfl
  have Fd_lit_row : FnP K "lit_row" s_lit_row (He.ga K "lit_row") f_lit_row := D_lit_row
  have g_lit_row : mg "lit_row" = some (.ref (He.ga K "lit_row")) := He.glo_ok X G (D.fact 11 (f := .glo "lit_row") rfl)
  have b_lit_row : L2.Binds K f_lit_row ["lamps"] [] := Fd_lit_row.bindsN fun _ _ _ _ _ _ us hl => match us, hl with | [_], _ => rfl
  obtain ⟨f_dark, D_dark⟩ := D.def_ 12 (d := d_dark) rfl
  have Fd_dark : FnP K "dark" s_dark (He.ga K "dark") f_dark := D_dark
  have g_dark : mg "dark" = some (.ref (He.ga K "dark")) := He.glo_ok X G (D.fact 12 (f := .glo "dark") rfl)
  have b_dark : L2.Binds K f_dark ["lamps"] [] := Fd_dark.bindsN fun _ _ _ _ _ _ us hl => match us, hl with | [_], _ => rfl
  obtain ⟨f_next_lit, D_next_lit⟩ := D.def_ 13 (d := d_next_lit) rfl
  have Fd_next_lit : FnP K "next_lit" s_next_lit (He.ga K "next_lit") f_next_lit := D_next_lit
  have g_next_lit : mg "next_lit" = some (.ref (He.ga K "next_lit")) := He.glo_ok X G (D.fact 13 (f := .glo "next_lit") rfl)
  have b_next_lit : L2.Binds K f_next_lit ["lamps", "hour"] [] := Fd_next_lit.bindsN fun _ _ _ _ _ _ us hl => match us, hl with | [_, _], _ => rfl
  obtain ⟨f_lit_hours, D_lit_hours⟩ := D.def_ 14 (d := d_lit_hours) rfl
  have Fd_lit_hours : FnP K "lit_hours" s_lit_hours (He.ga K "lit_hours") f_lit_hours := D_lit_hours
  have g_lit_hours : mg "lit_hours" = some (.ref (He.ga K "lit_hours")) := He.glo_ok X G (D.fact 14 (f := .glo "lit_hours") rfl)
  have b_lit_hours : L2.Binds K f_lit_hours ["lamps", "until"] [] := Fd_lit_hours.bindsN fun _ _ _ _ _ _ us hl => match us, hl with | [_, _], _ => rfl
  obtain ⟨f_lit_at, D_lit_at⟩ := D.def_ 15 (d := d_lit_at) rfl
  have Fd_lit_at : FnP K "lit_at" s_lit_at (He.ga K "lit_at") f_lit_at := D_lit_at
  have g_lit_at : mg "lit_at" = some (.ref (He.ga K "lit_at")) := He.glo_ok X G (D.fact 15 (f := .glo "lit_at") rfl)
  have b_lit_at : L2.Binds K f_lit_at ["lamps", "number"] [] := Fd_lit_at.bindsN fun _ _ _ _ _ _ us hl => match us, hl with | [_, _], _ => rfl
  obtain ⟨f_law_taken, D_law_taken⟩ := D.def_ 16 (d := d_law_taken) rfl
  have Fd_law_taken : FnP K "_law_taken" s_law_taken (He.ga K "_law_taken") f_law_taken := D_law_taken
  have g_law_taken : mg "_law_taken" = some (.ref (He.ga K "_law_taken")) := He.glo_ok X G (D.fact 16 (f := .glo "_law_taken") rfl)
  have b_law_taken : L2.Binds K f_law_taken ["row", "many"] [] := Fd_law_taken.bindsN fun _ _ _ _ _ _ us hl => match us, hl with | [_, _], _ => rfl
  obtain ⟨f_law_pick, D_law_pick⟩ := D.def_ 17 (d := d_law_pick) rfl
  have Fd_law_pick : FnP K "_law_pick" s_law_pick (He.ga K "_law_pick") f_law_pick := D_law_pick
  have g_law_pick : mg "_law_pick" = some (.ref (He.ga K "_law_pick")) := He.glo_ok X G (D.fact 17 (f := .glo "_law_pick") rfl)
  have b_law_pick : L2.Binds K f_law_pick ["row", "some"] [] := Fd_law_pick.bindsN fun _ _ _ _ _ _ us hl => match us, hl with | [_, _], _ => rfl
  obtain ⟨f_law_refused, D_law_refused⟩ := D.def_ 18 (d := d_law_refused) rfl
  have Fd_law_refused : FnP K "_law_refused" s_law_refused (He.ga K "_law_refused") f_law_refused := D_law_refused
  have g_law_refused : mg "_law_refused" = some (.ref (He.ga K "_law_refused")) := He.glo_ok X G (D.fact 18 (f := .glo "_law_refused") rfl)
  have b_law_refused : L2.Binds K f_law_refused ["call"] [] := Fd_law_refused.bindsN fun _ _ _ _ _ _ us hl => match us, hl with | [_], _ => rfl
  obtain ⟨f_law_alike, D_law_alike⟩ := D.def_ 19 (d := d_law_alike) rfl
  have Fd_law_alike : FnP K "_law_alike" s_law_alike (He.ga K "_law_alike") f_law_alike := D_law_alike
  have g_law_alike : mg "_law_alike" = some (.ref (He.ga K "_law_alike")) := He.glo_ok X G (D.fact 19 (f := .glo "_law_alike") rfl)
  have b_law_alike : L2.Binds K f_law_alike ["found", "due"] [] := Fd_law_alike.bindsN fun _ _ _ _ _ _ us hl => match us, hl with | [_, _], _ => rfl
  obtain ⟨f_law_lamps, D_law_lamps⟩ := D.def_ 20 (d := d_law_lamps) rfl
  have Fd_law_lamps : FnP K "_law_lamps" s_law_lamps (He.ga K "_law_lamps") f_law_lamps := D_law_lamps
  have g_law_lamps : mg "_law_lamps" = some (.ref (He.ga K "_law_lamps")) := He.glo_ok X G (D.fact 20 (f := .glo "_law_lamps") rfl)
  have b_law_lamps : L2.Binds K f_law_lamps ["row"] [] := Fd_law_lamps.bindsN fun _ _ _ _ _ _ us hl => match us, hl with | [_], _ => rfl
  obtain ⟨f_law_cycle, D_law_cycle⟩ := D.def_ 21 (d := d_law_cycle) rfl
  have Fd_law_cycle : FnP K "_law_cycle" s_law_cycle (He.ga K "_law_cycle") f_law_cycle := D_law_cycle
  have g_law_cycle : mg "_law_cycle" = some (.ref (He.ga K "_law_cycle")) := He.glo_ok X G (D.fact 21 (f := .glo "_law_cycle") rfl)
  have b_law_cycle : L2.Binds K f_law_cycle ["lamps"] [] := Fd_law_cycle.bindsN fun _ _ _ _ _ _ us hl => match us, hl with | [_], _ => rfl
  obtain ⟨f_law_shines, D_law_shines⟩ := D.def_ 22 (d := d_law_shines) rfl
  have Fd_law_shines : FnP K "_law_shines" s_law_shines (He.ga K "_law_shines") f_law_shines := D_law_shines
  have g_law_shines : mg "_law_shines" = some (.ref (He.ga K "_law_shines")) := He.glo_ok X G (D.fact 22 (f := .glo "_law_shines") rfl)
  have b_law_shines : L2.Binds K f_law_shines ["lamps", "hour"] [] := Fd_law_shines.bindsN fun _ _ _ _ _ _ us hl => match us, hl with | [_, _], _ => rfl
  obtain ⟨f_law_dark, D_law_dark⟩ := D.def_ 23 (d := d_law_dark) rfl
  have Fd_law_dark : FnP K "_law_dark" s_law_dark (He.ga K "_law_dark") f_law_dark := D_law_dark
  have g_law_dark : mg "_law_dark" = some (.ref (He.ga K "_law_dark")) := He.glo_ok X G (D.fact 23 (f := .glo "_law_dark") rfl)
  have b_law_dark : L2.Binds K f_law_dark ["lit", "many"] [] := Fd_law_dark.bindsN fun _ _ _ _ _ _ us hl => match us, hl with | [_, _], _ => rfl
  obtain ⟨f_law_case, D_law_case⟩ := D.def_ 24 (d := d_law_case) rfl
  have Fd_law_case : FnP K "_law_case" s_law_case (He.ga K "_law_case") f_law_case := D_law_case
  have g_law_case : mg "_law_case" = some (.ref (He.ga K "_law_case")) := He.glo_ok X G (D.fact 24 (f := .glo "_law_case") rfl)
  have b_law_case : L2.Binds K f_law_case ["row"] [] := Fd_law_case.bindsN fun _ _ _ _ _ _ us hl => match us, hl with | [_], _ => rfl
  obtain ⟨f_law, D_law⟩ := D.def_ 25 (d := d_law) rfl
  have Fd_law : FnP K "law" s_law (He.ga K "law") f_law := D_law
  have g_law : mg "law" = some (.ref (He.ga K "law")) := He.glo_ok X G (D.fact 25 (f := .glo "law") rfl)
  have b_law : L2.Binds K f_law ["script"] [] := Fd_law.bindsN fun _ _ _ _ _ _ us hl => match us, hl with | [_], _ => rfl
  have FI : FunD K "__init__" "BadArgument.__init__" (defArgs s_BadArgument_init_) (defBody s_BadArgument_init_) (defScope s_BadArgument_init_) [] [] (He.ma K (He.ga K "BadArgument") "__init__") fi := Fi
  have bI : L2.Binds K fi ["self", "name"] [] := FI.bindsN fun _ _ _ _ _ _ us hl => match us, hl with | [_, _], _ => rfl
  obtain ⟨cdv, Fc⟩ := FunDC.of Fd_law_case
  obtain ⟨c0, hc0⟩ : ∃ c0, cdv = .ref c0 := by
    obtain ⟨_, _, _, _, _, _, _, _, _, _, _, e⟩ := Fc.ex
    exact He.codeIn_ref e
  subst hc0
  have ec : (He.cT K ("_law_case", none)).1 = c0 := by
    obtain ⟨oc, od, dV, kV, doc, pm, an, ct, osl, e1, e2, e3⟩ := Fc.ex
    exact He.codeOf_eq (p := ("_law_case", none)) e2 (by rw [e1])
  have eb := hfa.symm.trans g_law
  cases eb
  have hm : (("_law_case" : Str), (none : Option Str)) ∈ tf := List.mem_cons_self
  refine ⟨f_law, [He.cT K ("_law_case", none)], spLaw K (tabT K), fun p hp => ?_, fun p hp => ?_, fun p hp => ?_, fun s u => Fd_law.bindsA (ps := ["script"]) (fun _ _ _ _ _ _ us hl => match us, hl with | [_], _ => rfl) s [u] rfl, fun H a ns hl _ hT hS => ⟨a, ns, rfl, hS, fun p hp => ?_, fun _ => rfl⟩, fun base hK hG hTB => ?_⟩
  · rw [List.mem_singleton.mp hp]; exact c.empty _ hm
  · rw [List.mem_singleton.mp hp]; exact c.out _ hm
  · rw [List.mem_singleton.mp hp]; exact PySem.W.codeHd_of_K X (c.hd _ hm)
  · rw [List.mem_singleton.mp hp]; exact LamX.TabS.nil (hT _ List.mem_cons_self)
  have TB := hTB _ List.mem_cons_self
  rw [ec] at TB
  have OI : FnOk PR w K mg base (L2.CX PR w) 1 (He.ma K (He.ga K "BadArgument") "__init__") fi ["self", "name"] (spInit (He.ga K "BadArgument")) := init_ok BO FI ⟨rfl, rfl, rfl, by decide +kernel, rfl, by decide +kernel, by decide +kernel⟩ rfl rfl
  have RO : RefOk K mg (He.ga K "BadArgument") "" := ⟨_, _, _, _, _, Fd_law_refused, g_law_refused, b_law_refused, sc_law_refused, fun Z q cdg e1 e2 => by subst e1 e2; exact refused_gives BO rfl rfl (by decide)⟩
  have c_expect : Cal PR w K mg base (He.ga K "BadArgument") 3 "expect" 2 F_expect := cal_mk Fd_expect (ok_expect BO OI bI Fd_expect) g_expect b_expect
  have c_is_count : Cal PR w K mg base (He.ga K "BadArgument") 1 "is_count" 3 F_is_count := cal_mk Fd_is_count (ok_is_count N Fd_is_count) g_is_count b_is_count
  have c_is_list : Cal PR w K mg base (He.ga K "BadArgument") 1 "is_list" 3 F_is_list := cal_mk Fd_is_list (ok_is_list N Fd_is_list) g_is_list b_is_list
  have c_shared : Cal PR w K mg base (He.ga K "BadArgument") 1 "shared" 2 F_shared := cal_mk Fd_shared (ok_shared N Fd_shared) g_shared b_shared
  have c_are_lamps : Cal PR w K mg base (He.ga K "BadArgument") 2 "are_lamps" 1 F_are_lamps := cal_mk Fd_are_lamps (ok_are_lamps N (c_is_list.mono (by decide)) (c_is_count.mono (by decide)) Fd_are_lamps) g_are_lamps b_are_lamps
  have c_cycle : Cal PR w K mg base (He.ga K "BadArgument") 4 "cycle" 1 F_cycle := cal_mk Fd_cycle (ok_cycle (c_expect.mono (by decide)) (c_are_lamps.mono (by decide)) (c_shared.mono (by decide)) Fd_cycle) g_cycle b_cycle
  have c_shining : Cal PR w K mg base (He.ga K "BadArgument") 4 "shining" 2 F_shining := cal_mk Fd_shining (ok_shining N (c_expect.mono (by decide)) (c_are_lamps.mono (by decide)) (c_is_count.mono (by decide)) Fd_shining) g_shining b_shining
  have k_shining : CalK PR w K mg base (He.ga K "BadArgument") 4 "shining" 1 "hour" F_shining := ⟨⟨_, _, _, ok_shining N (c_expect.mono (by decide)) (c_are_lamps.mono (by decide)) (c_is_count.mono (by decide)) Fd_shining, g_shining, Fd_shining.kp, kb0 Fd_shining 1 fun _ _ _ _ _ _ us w hl => match us, hl with | [_], _ => rfl⟩⟩
  have c_is_clash_of : Cal PR w K mg base (He.ga K "BadArgument") 2 "is_clash_of" 2 F_is_clash_of := cal_mk Fd_is_clash_of (ok_is_clash_of (c_shared.mono (by decide)) Fd_is_clash_of) g_is_clash_of b_is_clash_of
  have c_together : Cal PR w K mg base (He.ga K "BadArgument") 4 "together" 1 F_together := cal_mk Fd_together (ok_together (c_expect.mono (by decide)) (c_are_lamps.mono (by decide)) (c_shared.mono (by decide)) N Fd_together) g_together b_together
  have c_clash : Cal PR w K mg base (He.ga K "BadArgument") 4 "clash" 1 F_clash := cal_mk Fd_clash (ok_clash (c_expect.mono (by decide)) (c_are_lamps.mono (by decide)) (c_is_clash_of.mono (by decide)) N Fd_clash) g_clash b_clash
  have c_is_clash : Cal PR w K mg base (He.ga K "BadArgument") 4 "is_clash" 2 F_is_clash := cal_mk Fd_is_clash (ok_is_clash (c_expect.mono (by decide)) (c_are_lamps.mono (by decide)) (c_is_clash_of.mono (by decide)) (c_is_list.mono (by decide)) (c_is_count.mono (by decide)) N Fd_is_clash) g_is_clash b_is_clash
  have k_is_clash : CalK PR w K mg base (He.ga K "BadArgument") 4 "is_clash" 1 "value" F_is_clash := ⟨⟨_, _, _, ok_is_clash (c_expect.mono (by decide)) (c_are_lamps.mono (by decide)) (c_is_clash_of.mono (by decide)) (c_is_list.mono (by decide)) (c_is_count.mono (by decide)) N Fd_is_clash, g_is_clash, Fd_is_clash.kp, kb0 Fd_is_clash 1 fun _ _ _ _ _ _ us w hl => match us, hl with | [_], _ => rfl⟩⟩
  have c_lit_row : Cal PR w K mg base (He.ga K "BadArgument") 5 "lit_row" 1 F_lit_row := cal_mk Fd_lit_row (ok_lit_row (c_cycle.mono (by decide)) N Fd_lit_row) g_lit_row b_lit_row
  have c_dark : Cal PR w K mg base (He.ga K "BadArgument") 6 "dark" 1 F_dark := cal_mk Fd_dark (ok_dark (c_lit_row.mono (by decide)) N Fd_dark) g_dark b_dark
  have c_next_lit : Cal PR w K mg base (He.ga K "BadArgument") 4 "next_lit" 2 F_next_lit := cal_mk Fd_next_lit (ok_next_lit N (c_expect.mono (by decide)) (c_are_lamps.mono (by decide)) (c_is_count.mono (by decide)) Fd_next_lit) g_next_lit b_next_lit
  have c_lit_hours : Cal PR w K mg base (He.ga K "BadArgument") 6 "lit_hours" 2 F_lit_hours := cal_mk Fd_lit_hours (ok_lit_hours N (c_expect.mono (by decide)) (c_are_lamps.mono (by decide)) (c_is_count.mono (by decide)) (c_lit_row.mono (by decide)) Fd_lit_hours) g_lit_hours b_lit_hours
  have k_lit_hours : CalK PR w K mg base (He.ga K "BadArgument") 6 "lit_hours" 1 "until" F_lit_hours := ⟨⟨_, _, _, ok_lit_hours N (c_expect.mono (by decide)) (c_are_lamps.mono (by decide)) (c_is_count.mono (by decide)) (c_lit_row.mono (by decide)) Fd_lit_hours, g_lit_hours, Fd_lit_hours.kp, kb0 Fd_lit_hours 1 fun _ _ _ _ _ _ us w hl => match us, hl with | [_], _ => rfl⟩⟩
  have c_lit_at : Cal PR w K mg base (He.ga K "BadArgument") 6 "lit_at" 2 F_lit_at := cal_mk Fd_lit_at (ok_lit_at N (c_expect.mono (by decide)) (c_are_lamps.mono (by decide)) (c_is_count.mono (by decide)) (c_lit_row.mono (by decide)) (c_cycle.mono (by decide)) Fd_lit_at) g_lit_at b_lit_at
  have c_law_taken : CalR PR w K mg base (tabT K) 1 "_law_taken" 1 F_taken := calR_mk Fd_law_taken (ok_taken N Fd_law_taken) g_law_taken b_law_taken
  have c_law_pick : CalR PR w K mg base (tabT K) 2 "_law_pick" 1 F_pick := calR_mk Fd_law_pick (ok_pick N (c_law_taken.mono (by decide)) Fd_law_pick) g_law_pick b_law_pick
  have c_law_alike : Cal PR w K mg base (He.ga K "BadArgument") 2 "_law_alike" 2 (F_alike 1) := cal_mk Fd_law_alike (ok_alike N Fd_law_alike g_law_alike b_law_alike 1) g_law_alike b_law_alike
  have c_law_lamps : CalR PR w K mg base (tabT K) 3 "_law_lamps" 0 F_law_lamps := calR_mk Fd_law_lamps (ok_law_lamps N (c_law_taken.mono (by decide)) (c_law_pick.mono (by decide)) Fd_law_lamps) g_law_lamps b_law_lamps
  have c_law_cycle : Cal PR w K mg base (He.ga K "BadArgument") 1 "_law_cycle" 1 F_law_cycle := cal_mk Fd_law_cycle (ok_law_cycle N Fd_law_cycle) g_law_cycle b_law_cycle
  have c_law_shines : Cal PR w K mg base (He.ga K "BadArgument") 1 "_law_shines" 2 F_law_shines := cal_mk Fd_law_shines (ok_law_shines N Fd_law_shines) g_law_shines b_law_shines
  have c_law_dark : Cal PR w K mg base (He.ga K "BadArgument") 1 "_law_dark" 2 F_law_dark := cal_mk Fd_law_dark (ok_law_dark N Fd_law_dark) g_law_dark b_law_dark
  have CC : ∀ kk, 6 ≤ kk → Cals PR w K mg base (He.ga K "BadArgument") (tabT K) kk := fun kk hk => ⟨c_law_taken.mono (by omega), c_law_pick.mono (by omega), c_law_lamps.mono (by omega), c_law_cycle.mono (by omega), c_law_shines.mono (by omega), c_law_dark.mono (by omega), c_law_alike.mono (by omega), c_cycle.mono (by omega), c_shining.mono (by omega), k_shining.mono (by omega), c_together.mono (by omega), c_clash.mono (by omega), c_is_clash.mono (by omega), k_is_clash.mono (by omega), c_dark.mono (by omega), c_next_lit.mono (by omega), c_lit_hours.mono (by omega), k_lit_hours.mono (by omega), c_lit_at.mono (by omega)⟩
  exact ok_law N (calR_mk Fd_law_case (ok_case N (CC 9 (by decide)) (CC 7 (by decide)) Fc TB RO rfl) g_law_case b_law_case) Fd_law
end
end K06
open PySem PySem.W PySem.Calls PyProof.Rows
theorem PySem.Challenge.cw_watchedbeach_k06_whole_lamps_of_shores_holds : PySem.Challenge.rw_watchedbeach_k06_whole_lamps_of_shores.Holds := by
  w_on; o_law
  refine HandSHeadRun.head_any (r := OpenLaw.row PySem.Challenge.rw_watchedbeach_k06_whole_lamps_of_shores) (q := view (OpenLaw.row PySem.Challenge.rw_watchedbeach_k06_whole_lamps_of_shores).prog [33]) (H := K06.hk) (ob := K06.ob) (M := 1500) (loose := K06.loose) (d := HandSHeadRun.topDef (OpenLaw.row PySem.Challenge.rw_watchedbeach_k06_whole_lamps_of_shores).prog 33) (kwd := []) K06.ob_eq
    (by kernel_rfl) (fun s => by kernel_rfl) K06.run (by kernel_rfl) (by kernel_rfl) (by kernel_rfl) (by rfl) (by first | assumption | decide +kernel) (by decide +kernel) ⟨rfl, rfl, rfl, rfl, rfl, by decide +kernel⟩ ?hw ?hc
  case hw => w_witness2
  case hc =>
    refine LamX.walk_ofTsE (l := PySem.Challenge.rw_watchedbeach_k06_whole_lamps_of_shores) (n := 63) (k := 11) (x := "script") (CX := fun w => L2.CX K06.PR w) rfl (by decide) (by kernel_rfl) ⟨rfl, by decide, by decide⟩ ?F ?E
    case F =>
      intro w mg fa h Y G hmg0
      obtain ⟨K, KX, c⟩ := Y
      have hmg : mg ("law" : PySem.Str) = some (.ref fa) := by
        have e : (HandSHeadRun.topDef (OpenLaw.row PySem.Challenge.rw_watchedbeach_k06_whole_lamps_of_shores).prog 33).name = ("law" : PySem.Str) := by kernel_rfl
        rw [← e]
        exact hmg0
      exact ⟨K, KX, K06.facts KX G hmg c⟩
    case E =>
      intro w H s e s' x
      obtain ⟨_, _, _, _, _, _, _, _, _, _, _, _, _, _, z⟩ := x
