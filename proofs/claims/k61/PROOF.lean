import PyProof.Rows.All
import Wide.All
import OpenK.AllK
import Wide.FinOn
import HandS.Evl
import HandS.Deep
import HandS.NoneIn
import HandS.Words
import HandS.WordsExc
import HandS.SetFor
import HandS.More
import HandS.SortKw
import HandS.Wide
import HandS.Conv
import HandS.Style
import HandS.Text
import HandS.IsInst
import KE.DataMinMax
import HandS.Remove
import HandS.ExcValue
import HandS.ExcIs
import HandS.ExcOwn
import HandS.WideBits
import HandS.Codes
import HandS.Replace
import HandS.Iter
import PyProof.StrOps2
import HandS.EndBits
import PySem.Challenge.RW_hastebook_k61_numbers_and_names
set_option Elab.async false
set_option linter.all false
set_option maxRecDepth 100000
set_option maxHeartbeats 4000000
section
set_option maxRecDepth 100000
set_option maxHeartbeats 2000000
/-! A layer of data: what a reading evaluates to, as plain data, with no heap in sight. -/
namespace DL
open PySem L2
abbrev Ex := Evl.Ex
abbrev St := L2.St

/-! ### deep data at a value -/
/-- which addresses the data may use, and which lists may stand in the written part -/
structure Mode where
  P : Addr → Prop
  L : Addr → List V → Prop
/-- a list of the written part -/
def KL (K : PySem.W.Frag) (a : Addr) (xs : List V) : Prop := ∃ (o : Obj) (its : Array Value) (n : Nat), K.lookup a = some o ∧ o.cls = .type "list" ∧ o.dict = none ∧ o.data = .seq its n ∧ its.size ≤ sizeLine ∧ Vals xs its.toList
abbrev only (P : Addr → Prop) : Mode := ⟨P, fun _ _ => False⟩
abbrev T1 (K : PySem.W.Frag) : Mode := ⟨fun _ => True, KL K⟩
mutual
inductive Dd (m : Mode) (H : Hp) : V → PyData → Prop
  | non : Dd m H .non .none
  | bl (b : Bool) : Dd m H (.bl b) (.bool b)
  | int (i : Int) : Dd m H (.int i) (.int i)
  | str (x : Str) : Dd m H (.str x) (.str x)
  | lst {a : Addr} {xs : List V} {ds : List PyData} : (m.P a ∧ Rd H a (.lst xs)) ∨ m.L a xs → DdAll m H xs ds → Dd m H (.ref a) (.list ds)
  | tup {a : Addr} {xs : List V} {ds : List PyData} : m.P a → Rd H a (.tup xs) → DdAll m H xs ds → Dd m H (.ref a) (.tuple ds)
  | dic {a : Addr} {kvs : List (Key × V)} {ks : List Int} {ds : List PyData} {l : List (PyData × PyData)} : m.P a → Rd H a (.dK kvs) → kvs.map (·.1) = ks.map Sum.inl → l = (ks.map PyData.int).zip ds → ks.length = ds.length → DdAll m H (kvs.map (·.2)) ds → Dd m H (.ref a) (.dict l)
inductive DdAll (m : Mode) (H : Hp) : List V → List PyData → Prop
  | nil : DdAll m H [] []
  | cons {v : V} {vs : List V} {d : PyData} {ds : List PyData} : Dd m H v d → DdAll m H vs ds → DdAll m H (v :: vs) (d :: ds)
end
/-- a mode that allows more -/
structure MoreM (m m' : Mode) : Prop where
  P : ∀ a, m.P a → m'.P a
  L : ∀ a xs, m.L a xs → m'.L a xs
theorem MoreM.refl (m : Mode) : MoreM m m := ⟨fun _ h => h, fun _ _ h => h⟩
section
variable {m m' : Mode} {P P' : Addr → Prop} {H H' : Hp} {K : PySem.W.Frag}
mutual
theorem Dd.mono (h : ∀ a u, m.P a → Rd H a u → m'.P a ∧ Rd H' a u) (hl : ∀ a xs, m.L a xs → m'.L a xs) : ∀ {v : V} {d : PyData}, Dd m H v d → Dd m' H' v d
  | _, _, .non => .non
  | _, _, .bl b => .bl b
  | _, _, .int i => .int i
  | _, _, .str x => .str x
  | _, _, .lst r q => .lst (r.elim (fun r => .inl (h _ _ r.1 r.2)) fun r => .inr (hl _ _ r)) (DdAll.mono h hl q)
  | _, _, .tup p r q => .tup (h _ _ p r).1 (h _ _ p r).2 (DdAll.mono h hl q)
  | _, _, .dic p r e1 e2 e3 q => .dic (h _ _ p r).1 (h _ _ p r).2 e1 e2 e3 (DdAll.mono h hl q)
theorem DdAll.mono (h : ∀ a u, m.P a → Rd H a u → m'.P a ∧ Rd H' a u) (hl : ∀ a xs, m.L a xs → m'.L a xs) : ∀ {v : List V} {d : List PyData}, DdAll m H v d → DdAll m' H' v d
  | _, _, .nil => .nil
  | _, _, .cons p q => .cons (Dd.mono h hl p) (DdAll.mono h hl q)
end
theorem Dd.up {v : V} {d : PyData} (x : Dd m H v d) (h : MoreM m m') (e : Ex H H') : Dd m' H' v d := x.mono (fun a u p r => ⟨h.P a p, Evl.ex_rd e r⟩) h.L
theorem DdAll.up {v : List V} {d : List PyData} (x : DdAll m H v d) (h : MoreM m m') (e : Ex H H') : DdAll m' H' v d := x.mono (fun a u p r => ⟨h.P a p, Evl.ex_rd e r⟩) h.L
theorem Dd.ex {v : V} {d : PyData} (x : Dd m H v d) (e : Ex H H') : Dd m H' v d := x.up (.refl _) e
theorem DdAll.ex {v : List V} {d : List PyData} (x : DdAll m H v d) (e : Ex H H') : DdAll m H' v d := x.up (.refl _) e
theorem Dd.all {v : V} {d : PyData} (x : Dd m H v d) (h : ∀ a xs, m.L a xs → KL K a xs) (e : Ex H H') : Dd (T1 K) H' v d := x.up ⟨fun _ _ => trivial, h⟩ e
mutual
theorem Dd.dp (hl : ∀ a xs, m.L a xs → KL K a xs) : ∀ {v : V} {d : PyData}, Dd m H v d → d.canLay0 = true → Dp K H v d
  | _, _, .non, _ => .non
  | _, _, .bl b, _ => .bl b
  | _, _, .int i, _ => .int i
  | _, _, .str x, _ => .str x
  | _, _, .lst r q, h => .lst (r.elim (fun r => .inl r.2) fun r => .inr (hl _ _ r)) (DdAll.dp hl q (by simp only [PyData.canLay0] at h; exact h))
  | _, _, .tup p r q, h => .tup (Or.inl r) (DdAll.dp hl q (by simp only [PyData.canLay0] at h; exact h))
  | _, _, .dic _ _ _ _ _ _, h => by simp [PyData.canLay0] at h
theorem DdAll.dp (hl : ∀ a xs, m.L a xs → KL K a xs) : ∀ {v : List V} {d : List PyData}, DdAll m H v d → PyData.canLayAll0 d = true → DpAll K H v d
  | _, _, .nil, _ => .nil
  | _, _, .cons p q, h => by
    simp only [PyData.canLayAll0, Bool.and_eq_true] at h
    exact .cons (Dd.dp hl p h.1) (DdAll.dp hl q h.2)
end
theorem DdAll.length : ∀ {vs : List V} {ds : List PyData}, DdAll m H vs ds → vs.length = ds.length
  | _, _, .nil => rfl
  | _, _, .cons _ q => by simp [DdAll.length q]
theorem DdAll.get : ∀ {vs : List V} {ds : List PyData} {i : Nat} {d : PyData}, DdAll m H vs ds → ds[i]? = some d → ∃ v, vs[i]? = some v ∧ Dd m H v d
  | _, _, i, d, .nil, h => by simp at h
  | _, _, 0, d, .cons p q, h => by simp at h; subst h; exact ⟨_, rfl, p⟩
  | _, _, i + 1, d, .cons p q, h => by
    obtain ⟨v, a, b⟩ := DdAll.get (i := i) (d := d) q (by simpa using h)
    exact ⟨v, by simpa using a, b⟩
theorem DdAll.getV : ∀ {vs : List V} {ds : List PyData} {i : Nat} {v : V}, DdAll m H vs ds → vs[i]? = some v → ∃ d, ds[i]? = some d ∧ Dd m H v d
  | _, _, i, d, .nil, h => by simp at h
  | _, _, 0, d, .cons p q, h => by simp at h; subst h; exact ⟨_, rfl, p⟩
  | _, _, i + 1, d, .cons p q, h => by
    obtain ⟨v, a, b⟩ := DdAll.getV (i := i) (v := d) q (by simpa using h)
    exact ⟨v, by simpa using a, b⟩
theorem DdAll.append : ∀ {vs ws : List V} {ds es : List PyData}, DdAll m H vs ds → DdAll m H ws es → DdAll m H (vs ++ ws) (ds ++ es)
  | _, _, _, _, .nil, r => r
  | _, _, _, _, .cons p q, r => .cons p (DdAll.append q r)
theorem DdAll.one {v : V} {d : PyData} (h : Dd m H v d) : DdAll m H [v] [d] := .cons h .nil
theorem DdAll.set {v : V} {d : PyData} (h : Dd m H v d) : ∀ {vs : List V} {ds : List PyData} (i : Nat), DdAll m H vs ds → DdAll m H (vs.set i v) (ds.set i d)
  | _, _, _, .nil => .nil
  | _, _, 0, .cons p q => .cons h q
  | _, _, i + 1, .cons p q => .cons p (DdAll.set h i q)
theorem DdAll.take : ∀ {vs : List V} {ds : List PyData} (n : Nat), DdAll m H vs ds → DdAll m H (vs.take n) (ds.take n)
  | _, _, 0, _ => by simp; exact .nil
  | _, _, n + 1, .nil => .nil
  | _, _, n + 1, .cons p q => .cons p (DdAll.take n q)
theorem DdAll.drop : ∀ {vs : List V} {ds : List PyData} (n : Nat), DdAll m H vs ds → DdAll m H (vs.drop n) (ds.drop n)
  | _, _, 0, q => q
  | _, _, n + 1, .nil => .nil
  | _, _, n + 1, .cons p q => DdAll.drop n q
theorem DdAll.eraseIdx : ∀ {vs : List V} {ds : List PyData} (n : Nat), DdAll m H vs ds → DdAll m H (vs.eraseIdx n) (ds.eraseIdx n)
  | _, _, _, .nil => .nil
  | _, _, 0, .cons p q => q
  | _, _, n + 1, .cons p q => .cons p (DdAll.eraseIdx n q)
theorem DdAll.reverse : ∀ {vs : List V} {ds : List PyData}, DdAll m H vs ds → DdAll m H vs.reverse ds.reverse
  | _, _, .nil => .nil
  | _, _, .cons p q => by rw [List.reverse_cons, List.reverse_cons]; exact DdAll.append (DdAll.reverse q) (DdAll.one p)
/-- a list of ints -/
theorem DdAll.ints : ∀ {vs : List V} {ns : List Int}, DdAll m H vs (ns.map PyData.int) → vs = ns.map V.int
  | _, [], .nil => rfl
  | _, n :: ns, .cons p q => by cases p; rw [DdAll.ints q]; rfl
theorem DdAll.ofInts : ∀ (ns : List Int), DdAll m H (ns.map V.int) (ns.map PyData.int)
  | [] => .nil
  | n :: ns => .cons (.int n) (DdAll.ofInts ns)
theorem DdAll.strs : ∀ {vs : List V} {ns : List Str}, DdAll m H vs (ns.map PyData.str) → vs = ns.map V.str
  | _, [], .nil => rfl
  | _, n :: ns, .cons p q => by cases p; rw [DdAll.strs q]; rfl
theorem DdAll.ofStrs : ∀ (ns : List Str), DdAll m H (ns.map V.str) (ns.map PyData.str)
  | [] => .nil
  | n :: ns => .cons (.str n) (DdAll.ofStrs ns)
theorem DdAll.bls : ∀ {vs : List V} {ns : List Bool}, DdAll m H vs (ns.map PyData.bool) → vs = ns.map V.bl
  | _, [], .nil => rfl
  | _, n :: ns, .cons p q => by cases p; rw [DdAll.bls q]; rfl
end

/-! ### the state: slots told as data -/
/-- H0: the heap at the def's entry; NW: what counts as new -/
structure Cq (K : PySem.W.Frag) where
  H0 : Hp
  NW : Addr → Prop
  ok : ∀ a, H0 a = none → NW a
def Cq.pw {K : PySem.W.Frag} (c : Cq K) : Bool → Mode
  | true => only c.NW
  | false => T1 K
theorem Cq.any {K : PySem.W.Frag} {c : Cq K} {b : Bool} {a : Addr} (h : c.H0 a = none) : (c.pw b).P a := by
  cases b
  · trivial
  · exact c.ok a h
theorem Cq.kl {K : PySem.W.Frag} {c : Cq K} {b : Bool} : ∀ a xs, (c.pw b).L a xs → KL K a xs := fun a xs h => by
  cases b
  · exact h
  · exact h.elim
theorem Cq.more {K : PySem.W.Frag} {c : Cq K} {b : Bool} : MoreM (c.pw b) (c.pw false) := ⟨fun _ _ => trivial, Cq.kl⟩
/-- a part of the heap that only one slot knows: its addresses, what holds of it -/
structure Res where
  Z : Addr → Prop
  ph : Hp → Hp → Prop
  stay : ∀ F H F' H', ph F H → Ex F F' → (∀ a, Z a → H' a = H a) → ph F' H'
/-- no: unknown; val: data that stands still (b: all new); own: a list that only this slot holds -/
inductive Sl where
  | no
  | val (b : Bool) (d : PyData)
  | own (b : Bool) (ds : List PyData)
  | raw (v : V)
  | exc (cls : Value)
  | res (v : V) (R : Res)
  | dic (b : Bool) (kd : List (Int × PyData))
  | tab (b : Bool) (ds : List PyData)
/-- an error that was caught: the object, of this class -/
def Caught (cls : Value) (a : Addr) : Heap → Prop := fun h => ∃ oe : Obj, h.get? a = some oe ∧ oe.cls = cls ∧ oe.dict = none ∧ ∃ vs, oe.data = .fields vs
abbrev nI (n : Int) : Sl := .val false (.int n)
abbrev vB (n : Bool) : Sl := .val false (.bool n)
abbrev Rho := List Sl
def Sl.Owns : Sl → Option V → Addr → Prop
  | .own _ _, o, a => o = some (V.ref a)
  | .res _ R, _, a => R.Z a
  | .dic _ _, o, a => o = some (V.ref a)
  | .tab _ _, o, a => o = some (V.ref a)
  | _, _, _ => False
/-- no slot knows this address as its own -/
def NotOwn (ρ : Rho) (σ : St) (p : Addr) : Prop := ∀ (i : Nat) (s : Sl) (o : Option V), ρ[i]? = some s → σ[i]? = some o → ¬ s.Owns o p
/-- rows: lists that are known -/
def RowsIn (F : Hp) (xs : List V) : Prop := ∀ x ∈ xs, ∃ q ys, x = V.ref q ∧ F q = some (.lst ys)
theorem RowsIn.ex {F F' : Hp} {xs : List V} (h : RowsIn F xs) (e : Ex F F') : RowsIn F' xs := fun x hx => by
  obtain ⟨q, ys, e1, e2⟩ := h x hx
  exact ⟨q, ys, e1, e _ _ e2⟩
/-- the pairs of a dict with int keys -/
def DcAll (m : Mode) (H : Hp) (kvs : List (Key × V)) (kd : List (Int × PyData)) : Prop := kvs.map (·.1) = kd.map (fun p => Sum.inl p.1) ∧ DdAll m H (kvs.map (·.2)) (kd.map (·.2))
def SlOk {K : PySem.W.Frag} (c : Cq K) (F H : Hp) : Sl → Option V → Prop
  | .no, _ => True
  | .val b d, o => ∃ v, o = some v ∧ Dd (c.pw b) F v d
  | .own b ds, o => ∃ a xs, o = some (.ref a) ∧ F a = none ∧ H a = some (.lst xs) ∧ DdAll (c.pw b) F xs ds
  | .raw v, o => o = some v
  | .exc cls, o => ∃ a, o = some (.ref a) ∧ F a = some (.ext (Caught cls a))
  | .res v R, o => o = some v ∧ (∀ a, R.Z a → F a = none ∧ H a ≠ none) ∧ R.ph F H
  | .dic b kd, o => ∃ a kvs, o = some (.ref a) ∧ F a = none ∧ H a = some (.dK kvs) ∧ DcAll (c.pw b) F kvs kd
  | .tab b ds, o => ∃ a xs, o = some (.ref a) ∧ F a = none ∧ H a = some (.lst xs) ∧ DdAll (c.pw b) F xs ds ∧ RowsIn F xs
theorem SlOk.owned {K : PySem.W.Frag} {c : Cq K} {F H : Hp} {s : Sl} {o : Option V} {a : Addr} (x : SlOk c F H s o) (h : s.Owns o a) : F a = none ∧ H a ≠ none := by
  cases s with
  | own b ds =>
    obtain ⟨a', xs, e, f0, h1, d⟩ := x
    have h : o = some (V.ref a) := h
    rw [e] at h
    cases h
    exact ⟨f0, by rw [h1]; simp⟩
  | res v R => exact x.2.1 a h
  | dic b kd =>
    obtain ⟨a', xs, e, f0, h1, d⟩ := x
    have h : o = some (V.ref a) := h
    rw [e] at h
    cases h
    exact ⟨f0, by rw [h1]; simp⟩
  | tab b ds =>
    obtain ⟨a', xs, e, f0, h1, d⟩ := x
    have h : o = some (V.ref a) := h
    rw [e] at h
    cases h
    exact ⟨f0, by rw [h1]; simp⟩
  | _ => exact (show False from h).elim
theorem SlOk.move {K : PySem.W.Frag} {c : Cq K} {F H F' H' : Hp} {s : Sl} {o : Option V} (x : SlOk c F H s o) (ef : Ex F F') (hn : ∀ a, s.Owns o a → F' a = none ∧ H' a = H a) : SlOk c F' H' s o := by
  cases s with
  | no => trivial
  | val b d => obtain ⟨v, e, d⟩ := x; exact ⟨v, e, d.ex ef⟩
  | own b ds =>
    obtain ⟨a, xs, e, f0, h, d⟩ := x
    obtain ⟨q1, q2⟩ := hn a e
    exact ⟨a, xs, e, q1, by rw [q2]; exact h, d.ex ef⟩
  | raw v => exact x
  | exc cls => obtain ⟨a, e, h⟩ := x; exact ⟨a, e, ef _ _ h⟩
  | res v R => exact ⟨x.1, fun a h => ⟨(hn a h).1, by rw [(hn a h).2]; exact (x.2.1 a h).2⟩, R.stay F H F' H' x.2.2 ef fun a h => (hn a h).2⟩
  | dic b kd =>
    obtain ⟨a, xs, e, f0, h, d1, d2⟩ := x
    obtain ⟨q1, q2⟩ := hn a e
    exact ⟨a, xs, e, q1, by rw [q2]; exact h, d1, d2.ex ef⟩
  | tab b ds =>
    obtain ⟨a, xs, e, f0, h, d, rr⟩ := x
    obtain ⟨q1, q2⟩ := hn a e
    exact ⟨a, xs, e, q1, by rw [q2]; exact h, d.ex ef, rr.ex ef⟩
structure Sim {K : PySem.W.Frag} (c : Cq K) (O : Addr → Prop) (ρ : Rho) (σ : St) (F H : Hp) : Prop where
  base : Ex c.H0 F
  ff : Ex F H
  prot : ∀ a, O a → F a = none ∧ H a ≠ none
  len : σ.length = ρ.length
  sl : ∀ (i : Nat) (s : Sl) (o : Option V), ρ[i]? = some s → σ[i]? = some o → SlOk c F H s o
  apart : ∀ (i j : Nat) (s t : Sl) (o o' : Option V) (a : Addr), ρ[i]? = some s → ρ[j]? = some t → σ[i]? = some o → σ[j]? = some o' → s.Owns o a → t.Owns o' a → i = j
section
variable {K : PySem.W.Frag} {c : Cq K} {O : Addr → Prop} {ρ ρ' : Rho} {σ : St} {F H F' H' : Hp}
theorem Sim.bb (S : Sim c O ρ σ F H) : Ex c.H0 H := S.base.trans S.ff
theorem Sim.get (S : Sim c O ρ σ F H) {i : Nat} {s : Sl} (h : ρ[i]? = some s) : ∃ o, σ[i]? = some o ∧ SlOk c F H s o := by
  have q : i < σ.length := by rw [S.len]; exact (List.getElem?_eq_some_iff.mp h).1
  exact ⟨σ[i], by simp [q], S.sl i s _ h (by simp [q])⟩
/-- the heaps grow, all owned lists stay -/
theorem SlOk.grow {s : Sl} {o : Option V} (x : SlOk c F H s o) (ef : Ex F F') (eh : Ex H H') (hn : ∀ a, H a ≠ none → F a = none → F' a = none) : SlOk c F' H' s o := x.move ef fun a h => by
  obtain ⟨q1, q2⟩ := x.owned h
  refine ⟨hn a q2 q1, ?_⟩
  cases e : H a with
  | none => exact absurd e q2
  | some u => exact eh a u e
theorem Sim.grow (S : Sim c O ρ σ F H) (ef : Ex F F') (eh : Ex H H') (hn : ∀ a, H a ≠ none → F a = none → F' a = none) (f2 : Ex F' H') : Sim c O ρ σ F' H' :=
  ⟨S.base.trans ef, f2, fun a h => ⟨hn a (S.prot a h).2 (S.prot a h).1, fun z => (S.prot a h).2 (Evl.fresh_back eh z)⟩, S.len, fun i s o h1 h2 => (S.sl i s o h1 h2).grow ef eh hn, S.apart⟩
open Classical in
/-- all that is new in H' is made part of F -/
noncomputable def addF (F H H' : Hp) : Hp := fun a => if H a = none then H' a else F a
theorem addF_ex (ff : Ex F H) : Ex F (addF F H H') := fun a o e => by
  unfold addF
  rw [if_neg (by rw [ff a o e]; simp)]
  exact e
theorem addF_sub (ff : Ex F H) (eh : Ex H H') : Ex (addF F H H') H' := fun a o e => by
  unfold addF at e
  split at e
  · exact e
  · exact eh a o (ff a o e)
theorem addF_new {a : Addr} (h : H a = none) : addF F H H' a = H' a := by unfold addF; rw [if_pos h]
theorem addF_old {a : Addr} (h : H a ≠ none) : addF F H H' a = F a := by unfold addF; rw [if_neg h]
theorem Sim.add (S : Sim c O ρ σ F H) (eh : Ex H H') : Sim c O ρ σ (addF F H H') H' :=
  S.grow (addF_ex S.ff) eh (fun a h f => by rw [addF_old h]; exact f) (addF_sub S.ff eh)
theorem rd_add {a : Addr} {u : HO} (h : H a = none) (r : Rd H' a u) : Rd (addF F H H') a u := by
  rcases r with r | ⟨o, r⟩
  · exact .inl (by rw [addF_new h]; exact r)
  · exact .inr ⟨o, by rw [addF_new h]; exact r⟩
/-- data made of new objects alone is frozen data -/
theorem Dd.add {v : V} {d : PyData} (x : Dd (only fun a => H a = none) H' v d) (S : Sim c O ρ σ F H) (b : Bool) : Dd (c.pw b) (addF F H H') v d :=
  x.mono (fun a u p r => ⟨Cq.any (by
    cases q : c.H0 a with
    | none => rfl
    | some o => have p' : H a = none := p; rw [S.bb a o q] at p'; cases p'), rd_add p r⟩) fun _ _ (h : False) => h.elim
theorem DdAll.add {v : List V} {d : List PyData} (x : DdAll (only fun a => H a = none) H' v d) (S : Sim c O ρ σ F H) (b : Bool) : DdAll (c.pw b) (addF F H H') v d :=
  x.mono (fun a u p r => ⟨Cq.any (by
    cases q : c.H0 a with
    | none => rfl
    | some o => have p' : H a = none := p; rw [S.bb a o q] at p'; cases p'), rd_add p r⟩) fun _ _ (h : False) => h.elim
end

/-! ### what evaluates to what -/
def Ev {K : PySem.W.Frag} (c : Cq K) (b : Bool) (te : TE) (ρ : Rho) (d : PyData) : Prop := ∀ (O : Addr → Prop) (σ : St) (F H : Hp), Sim c O ρ σ F H → ∀ Q : VK, (∀ v F' H', Ex F F' → Ex H H' → Sim c O ρ σ F' H' → Dd (c.pw b) F' v d → Q v H') → te σ H Q
def EvR {K : PySem.W.Frag} (c : Cq K) (te : TE) (ρ : Rho) (d : PyData) : Prop := ∀ (O : Addr → Prop) (σ : St) (F H : Hp), Sim c O ρ σ F H → ∀ Q : VK, (∀ v F' H', Ex F F' → Ex H H' → Sim c O ρ σ F' H' → Dd (T1 K) H' v d → Q v H') → te σ H Q
def EvL {K : PySem.W.Frag} (c : Cq K) (b : Bool) (te : TE) (ρ : Rho) (ds : List PyData) : Prop := ∀ (O : Addr → Prop) (σ : St) (F H : Hp), Sim c O ρ σ F H → ∀ Q : VK,
  (∀ p xs F' H', Ex F F' → Ex H H' → Sim c O ρ σ F' H' → H p = none → F' p = none → H' p = some (.lst xs) → NotOwn ρ σ p → DdAll (c.pw b) F' xs ds → Q (.ref p) H') → te σ H Q
def EvB {K : PySem.W.Frag} (c : Cq K) (tt : TT) (ρ : Rho) (b : Bool) : Prop := ∀ (O : Addr → Prop) (σ : St) (F H : Hp), Sim c O ρ σ F H → ∀ Q : Bool → Hp → Prop, (∀ F' H', Ex F F' → Ex H H' → Sim c O ρ σ F' H' → Q b H') → tt σ H Q
def EvA {K : PySem.W.Frag} (c : Cq K) (ta : TA) (ρ : Rho) (ds : List PyData) : Prop := ∀ (O : Addr → Prop) (σ : St) (F H : Hp), Sim c O ρ σ F H → ∀ Q : List V → Hp → Prop, (∀ vs F' H', Ex F F' → Ex H H' → Sim c O ρ σ F' H' → DdAll (T1 K) H' vs ds → Q vs H') → ta σ H Q
def EvAF {K : PySem.W.Frag} (c : Cq K) (b : Bool) (ta : TA) (ρ : Rho) (ds : List PyData) : Prop := ∀ (O : Addr → Prop) (σ : St) (F H : Hp), Sim c O ρ σ F H → ∀ Q : List V → Hp → Prop, (∀ vs F' H', Ex F F' → Ex H H' → Sim c O ρ σ F' H' → DdAll (c.pw b) F' vs ds → Q vs H') → ta σ H Q
def EvO {K : PySem.W.Frag} (c : Cq K) (to : TO) (ρ : Rho) (o : Option Int) : Prop := ∀ (O : Addr → Prop) (σ : St) (F H : Hp), Sim c O ρ σ F H → ∀ Q : Option Int → Hp → Prop, (∀ F' H', Ex F F' → Ex H H' → Sim c O ρ σ F' H' → Q o H') → to σ H Q
/-- plain values: they need no heap -/
inductive Sca : V → PyData → Prop
  | non : Sca .non .none
  | bl (b : Bool) : Sca (.bl b) (.bool b)
  | int (i : Int) : Sca (.int i) (.int i)
  | str (x : Str) : Sca (.str x) (.str x)
theorem Sca.dd {m : Mode} {H : Hp} {v : V} {d : PyData} (h : Sca v d) : Dd m H v d := by cases h <;> constructor
def isSca : PyData → Bool
  | .none => true
  | .bool _ => true
  | .int _ => true
  | .str _ => true
  | _ => false
theorem Dd.sca {m m' : Mode} {H H' : Hp} {v : V} {d : PyData} (h : Dd m H v d) (s : isSca d = true) : Dd m' H' v d := by
  cases h with
  | lst => cases s
  | tup => cases s
  | dic => cases s
  | non => exact .non
  | bl b => exact .bl b
  | int i => exact .int i
  | str x => exact .str x
section
variable {K : PySem.W.Frag} {c : Cq K} {b b' : Bool} {te ta tb tx : TE} {tt tu : TT} {ρ : Rho} {d : PyData} {i j : Int}
theorem Ev.is {e : PyData} (h : Ev c b te ρ d) (q : d = e) : Ev c b te ρ e := q ▸ h
theorem EvL.is {ds es : List PyData} (h : EvL c b te ρ ds) (q : ds = es) : EvL c b te ρ es := q ▸ h
theorem EvB.is {x y : Bool} (h : EvB c tt ρ x) (q : x = y) : EvB c tt ρ y := q ▸ h
theorem Ev.r (h : Ev c b te ρ d) : EvR c te ρ d := fun O σ F H S Q k => h O σ F H S Q fun v F' H' e1 e2 S' dd => k v F' H' e1 e2 S' (dd.all Cq.kl S'.ff)
theorem Ev.weak (h : Ev c true te ρ d) : Ev c false te ρ d := fun O σ F H S Q k => h O σ F H S Q fun v F' H' e1 e2 S' dd => k v F' H' e1 e2 S' (dd.up Cq.more (Evl.Ex.refl _))
theorem EvR.sca (h : EvR c te ρ d) (s : isSca d = true) : Ev c b te ρ d := fun O σ F H S Q k => h O σ F H S Q fun v F' H' e1 e2 S' dd => k v F' H' e1 e2 S' (dd.sca s)
/-- a new list, frozen -/
theorem EvL.ev {ds : List PyData} (h : EvL c b te ρ ds) : Ev c b te ρ (.list ds) := fun O σ F H S Q k => h O σ F H S Q fun p xs F' H' e1 e2 S' hp fp h1 ow dd => by
  have n0 : c.H0 p = none := by
    cases q : c.H0 p with
    | none => rfl
    | some o => rw [S.bb p o q] at hp; cases hp
  have ef : Ex F' (upd F' p (.lst xs)) := Evl.Ex.new fp
  have ff : Ex (upd F' p (.lst xs)) H' := fun a o e => by
    by_cases z : a = p
    · subst z; rw [upd_same] at e; cases e; exact h1
    · rw [upd_ne z] at e; exact S'.ff a o e
  refine k _ (upd F' p (.lst xs)) H' (e1.trans ef) e2 ⟨S'.base.trans ef, ff, fun a h => ⟨by rw [upd_ne (fun z => (S.prot a h).2 (by rw [z]; exact hp))]; exact (S'.prot a h).1, (S'.prot a h).2⟩, S'.len, fun i s o hi ho => ?_, S'.apart⟩ (.lst (.inl ⟨Cq.any n0, .inl upd_same⟩) (dd.ex ef))
  exact (S'.sl i s o hi ho).move ef fun a ha => ⟨by rw [upd_ne (fun z => ow i s o hi ho (by rw [← z]; exact ha))]; exact ((S'.sl i s o hi ho).owned ha).1, rfl⟩
theorem EvL.weak {ds : List PyData} (h : EvL c true te ρ ds) : EvL c false te ρ ds := fun O σ F H S Q k => h O σ F H S Q fun p xs F' H' e1 e2 S' hp fp h1 ow dd => k p xs F' H' e1 e2 S' hp fp h1 ow (dd.up Cq.more (Evl.Ex.refl _))

/-! names and constants -/
theorem ev_var {k : Nat} (h : ρ[k]? = some (.val b d)) : Ev c b (tVar k) ρ d := fun O σ F H S Q q => by
  obtain ⟨o, ho, v, e, dd⟩ := S.get h
  exact ⟨v, by rw [ho, e], q v F H (Evl.Ex.refl _) (Evl.Ex.refl _) S dd⟩
theorem ev_varW {k : Nat} (h : ρ[k]? = some (.val true d)) : Ev c false (tVar k) ρ d := (ev_var h).weak
theorem ev_varS {k : Nat} (h : ρ[k]? = some (.val b' d)) (s : isSca d = true) : Ev c b (tVar k) ρ d := ((ev_var h).r).sca s
theorem er_var {k : Nat} (h : ρ[k]? = some (.val b d)) : EvR c (tVar k) ρ d := (ev_var h).r
theorem er_own {k : Nat} {ds : List PyData} (h : ρ[k]? = some (.own b ds)) : EvR c (tVar k) ρ (.list ds) := fun O σ F H S Q q => by
  obtain ⟨o, ho, a, xs, e, f0, h1, dd⟩ := S.get h
  exact ⟨_, by rw [ho, e], q _ F H (Evl.Ex.refl _) (Evl.Ex.refl _) S (.lst (.inl ⟨trivial, .inl h1⟩) (dd.up ⟨fun _ _ => trivial, Cq.kl⟩ S.ff))⟩
theorem ev_int : Ev c b (tC (.int i)) ρ (.int i) := fun O σ F H S Q q => q _ F H (Evl.Ex.refl _) (Evl.Ex.refl _) S (.int i)
theorem ev_bl {x : Bool} : Ev c b (tC (.bl x)) ρ (.bool x) := fun O σ F H S Q q => q _ F H (Evl.Ex.refl _) (Evl.Ex.refl _) S (.bl x)
theorem ev_str {x : Str} : Ev c b (tC (.str x)) ρ (.str x) := fun O σ F H S Q q => q _ F H (Evl.Ex.refl _) (Evl.Ex.refl _) S (.str x)
theorem ev_non : Ev c b (tC .non) ρ .none := fun O σ F H S Q q => q _ F H (Evl.Ex.refl _) (Evl.Ex.refl _) S .non

/-! two ints -/
theorem ev_op0 {g : Int → Int → V} {e : PyData} (ha : EvR c ta ρ (.int i)) (hb : EvR c tb ρ (.int j)) (hd : Sca (g i j) e) : Ev c b (tOp (rI0 g) ta tb) ρ e := fun O σ F H S Q k => by
  refine ha O σ F H S _ fun v F1 H1 e1 h1 S1 d1 => hb O σ F1 H1 S1 _ fun w F2 H2 e2 h2 S2 d2 => ?_
  cases d1; cases d2
  exact ⟨i, j, rfl, rfl, k _ F2 H2 (e1.trans e2) (h1.trans h2) S2 hd.dd⟩
theorem ev_opI {C : Int → Int → Prop} {g : Int → Int → V} {e : PyData} (ha : EvR c ta ρ (.int i)) (hb : EvR c tb ρ (.int j)) (hc : C i j) (hd : Sca (g i j) e) : Ev c b (tOp (rI C g) ta tb) ρ e := fun O σ F H S Q k => by
  refine ha O σ F H S _ fun v F1 H1 e1 h1 S1 d1 => hb O σ F1 H1 S1 _ fun w F2 H2 e2 h2 S2 d2 => ?_
  cases d1; cases d2
  exact ⟨i, j, rfl, rfl, hc, k _ F2 H2 (e1.trans e2) (h1.trans h2) S2 hd.dd⟩
theorem ev_un {g : Int → V} {e : PyData} (ha : EvR c ta ρ (.int i)) (hd : Sca (g i) e) : Ev c b (tUn (rU g) ta) ρ e := fun O σ F H S Q k => by
  refine ha O σ F H S _ fun v F1 H1 e1 h1 S1 d1 => ?_
  cases d1
  exact ⟨i, rfl, k _ F1 H1 e1 h1 S1 hd.dd⟩
/-! == of scalars -/
def eqS : PyData → PyData → Bool
  | .none, .none => true
  | .bool a, .bool b => a == b
  | .int a, .int b => a == b
  | .str a, .str b => a == b
  | _, _ => false
def scalD : PyData → PyData → Bool
  | .none, .int _ => true | .int _, .none => true | .none, .bool _ => true | .bool _, .none => true | .none, .str _ => true | .str _, .none => true
  | .none, .none => true | .int _, .int _ => true | .bool _, .bool _ => true | .str _, .str _ => true
  | .int _, .str _ => true | .str _, .int _ => true | .bool _, .str _ => true | .str _, .bool _ => true
  | _, _ => false
theorem scal_of {m m' : Mode} {H H' : Hp} {x y : V} {d e : PyData} (h1 : Dd m H x d) (h2 : Dd m' H' y e) (s : scalD d e = true) : scal x y = true ∧ decide (x = y) = eqS d e := by
  cases h1 <;> cases h2 <;> first | (cases s; done) | exact ⟨rfl, Bool.eq_iff_iff.mpr (by simp [eqS])⟩
theorem ev_eq {e : PyData} (ha : EvR c ta ρ d) (hb : EvR c tb ρ e) (s : scalD d e = true) : Ev c b (tOp rEq ta tb) ρ (.bool (eqS d e)) := fun O σ F H S Q k => by
  refine ha O σ F H S _ fun v F1 H1 e1 h1 S1 d1 => hb O σ F1 H1 S1 _ fun w F2 H2 e2 h2 S2 d2 => ?_
  have q := scal_of d1 d2 s
  refine ⟨q.1, ?_⟩
  rw [q.2]
  exact k _ F2 H2 (e1.trans e2) (h1.trans h2) S2 (.bl _)
theorem ev_ne {e : PyData} (ha : EvR c ta ρ d) (hb : EvR c tb ρ e) (s : scalD d e = true) : Ev c b (tOp rNe ta tb) ρ (.bool (!eqS d e)) := fun O σ F H S Q k => by
  refine ha O σ F H S _ fun v F1 H1 e1 h1 S1 d1 => hb O σ F1 H1 S1 _ fun w F2 H2 e2 h2 S2 d2 => ?_
  have q := scal_of d1 d2 s
  refine ⟨q.1, ?_⟩
  rw [q.2]
  exact k _ F2 H2 (e1.trans e2) (h1.trans h2) S2 (.bl _)
theorem ev_eqI (ha : EvR c ta ρ (.int i)) (hb : EvR c tb ρ (.int j)) : Ev c b (tOp rEq ta tb) ρ (.bool (decide (i = j))) := (ev_eq ha hb rfl).is (by show PyData.bool (i == j) = _; rw [Bool.beq_eq_decide_eq])
theorem ev_neI (ha : EvR c ta ρ (.int i)) (hb : EvR c tb ρ (.int j)) : Ev c b (tOp rNe ta tb) ρ (.bool (!decide (i = j))) := (ev_ne ha hb rfl).is (by show PyData.bool (!(i == j)) = _; rw [Bool.beq_eq_decide_eq])
/-! deep == -/
theorem ev_eqD {e : PyData} (ha : EvR c ta ρ d) (hb : EvR c tb ρ e) (s1 : SeqAt.shaped d = true) (s2 : SeqAt.shaped e = true) : Ev c b (tOp (rEqD K) ta tb) ρ (.bool (PyData.eqv d e)) := fun O σ F H S Q k =>
  ha O σ F H S _ fun v F1 H1 e1 h1 S1 d1 => hb O σ F1 H1 S1 _ fun w F2 H2 e2 h2 S2 d2 => ⟨d, e, (d1.ex h2).dp (fun _ _ h => h) (SeqAt.canLay_of_shaped s1), d2.dp (fun _ _ h => h) (SeqAt.canLay_of_shaped s2), s1, s2, k _ F2 H2 (e1.trans e2) (h1.trans h2) S2 (.bl _)⟩
theorem ev_neD {e : PyData} (ha : EvR c ta ρ d) (hb : EvR c tb ρ e) (s1 : SeqAt.shaped d = true) (s2 : SeqAt.shaped e = true) : Ev c b (tOp (rNeD K) ta tb) ρ (.bool (!PyData.eqv d e)) := fun O σ F H S Q k =>
  ha O σ F H S _ fun v F1 H1 e1 h1 S1 d1 => hb O σ F1 H1 S1 _ fun w F2 H2 e2 h2 S2 d2 => ⟨d, e, (d1.ex h2).dp (fun _ _ h => h) (SeqAt.canLay_of_shaped s1), d2.dp (fun _ _ h => h) (SeqAt.canLay_of_shaped s2), s1, s2, k _ F2 H2 (e1.trans e2) (h1.trans h2) S2 (.bl _)⟩
theorem ev_inD {ds : List PyData} (ha : EvR c ta ρ d) (hb : EvR c tb ρ (.list ds)) (s1 : SeqAt.shaped d = true) (s2 : SeqAt.shaped (.list ds) = true) : Ev c b (tOp (rInD K) ta tb) ρ (.bool (ds.any fun z => PyData.eqv z d)) := fun O σ F H S Q k =>
  ha O σ F H S _ fun v F1 H1 e1 h1 S1 d1 => hb O σ F1 H1 S1 _ fun w F2 H2 e2 h2 S2 d2 => ⟨d, ds, (d1.ex h2).dp (fun _ _ h => h) (SeqAt.canLay_of_shaped s1), d2.dp (fun _ _ h => h) (SeqAt.canLay_of_shaped s2), s1, s2, k _ F2 H2 (e1.trans e2) (h1.trans h2) S2 (.bl _)⟩
theorem ev_niD {ds : List PyData} (ha : EvR c ta ρ d) (hb : EvR c tb ρ (.list ds)) (s1 : SeqAt.shaped d = true) (s2 : SeqAt.shaped (.list ds) = true) : Ev c b (tOp (rNotInD K) ta tb) ρ (.bool (!ds.any fun z => PyData.eqv z d)) := fun O σ F H S Q k =>
  ha O σ F H S _ fun v F1 H1 e1 h1 S1 d1 => hb O σ F1 H1 S1 _ fun w F2 H2 e2 h2 S2 d2 => ⟨d, ds, (d1.ex h2).dp (fun _ _ h => h) (SeqAt.canLay_of_shaped s1), d2.dp (fun _ _ h => h) (SeqAt.canLay_of_shaped s2), s1, s2, k _ F2 H2 (e1.trans e2) (h1.trans h2) S2 (.bl _)⟩
/-! tests -/
theorem eb_test {x : Bool} (h : EvR c te ρ (.bool x)) : EvB c (tTest te) ρ x := fun O σ F H S Q k => h O σ F H S _ fun v F1 H1 e1 h1 S1 d1 => by
  cases d1
  exact ⟨x, rfl, k F1 H1 e1 h1 S1⟩
theorem eb_B {x : Bool} (h : EvR c te ρ (.bool x)) : EvB c (tB te) ρ x := fun O σ F H S Q k => h O σ F H S _ fun v F1 H1 e1 h1 S1 d1 => by
  cases d1
  exact ⟨x, rfl, k F1 H1 e1 h1 S1⟩
theorem eb_not {x : Bool} (h : EvB c tt ρ x) : EvB c (tNot tt) ρ (!x) := fun O σ F H S Q k => h O σ F H S _ fun F1 H1 e1 h1 S1 => k F1 H1 e1 h1 S1
theorem eb_and {x y : Bool} (h : EvB c tt ρ x) (h2 : x = true → EvB c tu ρ y) : EvB c (tAnd tt tu) ρ (x && y) := fun O σ F H S Q k => h O σ F H S _ fun F1 H1 e1 h1 S1 => by
  cases x with
  | true => exact iteT (h2 rfl O σ F1 H1 S1 Q fun F2 H2 e2 h2 S2 => k F2 H2 (e1.trans e2) (h1.trans h2) S2)
  | false => exact iteF (k F1 H1 e1 h1 S1)
theorem eb_or {x y : Bool} (h : EvB c tt ρ x) (h2 : x = false → EvB c tu ρ y) : EvB c (tOr tt tu) ρ (x || y) := fun O σ F H S Q k => h O σ F H S _ fun F1 H1 e1 h1 S1 => by
  cases x with
  | true => exact iteT (k F1 H1 e1 h1 S1)
  | false => exact iteF (h2 rfl O σ F1 H1 S1 Q fun F2 H2 e2 h2 S2 => k F2 H2 (e1.trans e2) (h1.trans h2) S2)
theorem ev_andV {x y : Bool} (h : EvR c ta ρ (.bool x)) (h2 : x = true → EvR c tb ρ (.bool y)) : Ev c b (tAndV ta tb) ρ (.bool (x && y)) := fun O σ F H S Q k => h O σ F H S _ fun v F1 H1 e1 h1 S1 d1 => by
  cases d1
  refine ⟨x, rfl, ?_⟩
  cases x with
  | true => exact iteT (h2 rfl O σ F1 H1 S1 Q fun w F2 H2 e2 h2 S2 d2 => k w F2 H2 (e1.trans e2) (h1.trans h2) S2 (d2.sca rfl))
  | false => exact iteF (k _ F1 H1 e1 h1 S1 (.bl _))
theorem ev_orV {x y : Bool} (h : EvR c ta ρ (.bool x)) (h2 : x = false → EvR c tb ρ (.bool y)) : Ev c b (tOrV ta tb) ρ (.bool (x || y)) := fun O σ F H S Q k => h O σ F H S _ fun v F1 H1 e1 h1 S1 d1 => by
  cases d1
  refine ⟨x, rfl, ?_⟩
  cases x with
  | true => exact iteT (k _ F1 H1 e1 h1 S1 (.bl _))
  | false => exact iteF (h2 rfl O σ F1 H1 S1 Q fun w F2 H2 e2 h2 S2 d2 => k w F2 H2 (e1.trans e2) (h1.trans h2) S2 (d2.sca rfl))
theorem ev_notV {x : Bool} (h : EvR c ta ρ (.bool x)) : Ev c b (tNotV ta) ρ (.bool (!x)) := fun O σ F H S Q k => h O σ F H S _ fun v F1 H1 e1 h1 S1 d1 => by
  cases d1
  exact ⟨x, rfl, k _ F1 H1 e1 h1 S1 (.bl _)⟩
theorem ev_if {x : Bool} (h : EvB c tt ρ x) (h1 : x = true → Ev c b ta ρ d) (h2 : x = false → Ev c b tb ρ d) : Ev c b (tIf tt ta tb) ρ d := fun O σ F H S Q k => h O σ F H S _ fun F1 H1 e1 g1 S1 => by
  cases x with
  | true => exact iteT (h1 rfl O σ F1 H1 S1 Q fun w F2 H2 e2 h2 S2 d2 => k w F2 H2 (e1.trans e2) (g1.trans h2) S2 d2)
  | false => exact iteF (h2 rfl O σ F1 H1 S1 Q fun w F2 H2 e2 h2 S2 d2 => k w F2 H2 (e1.trans e2) (g1.trans h2) S2 d2)
/-! arguments, displays -/
theorem ea_nil : EvA c tNil ρ [] := fun O σ F H S Q k => k _ F H (Evl.Ex.refl _) (Evl.Ex.refl _) S .nil
theorem ea_cons {tr : TA} {ds : List PyData} (h : EvR c te ρ d) (hr : EvA c tr ρ ds) : EvA c (tCons te tr) ρ (d :: ds) := fun O σ F H S Q k =>
  h O σ F H S _ fun v F1 H1 e1 h1 S1 d1 => hr O σ F1 H1 S1 _ fun vs F2 H2 e2 h2 S2 d2 => k _ F2 H2 (e1.trans e2) (h1.trans h2) S2 (.cons (d1.ex h2) d2)
theorem ef_nil : EvAF c b tNil ρ [] := fun O σ F H S Q k => k _ F H (Evl.Ex.refl _) (Evl.Ex.refl _) S .nil
theorem ef_cons {tr : TA} {ds : List PyData} (h : Ev c b te ρ d) (hr : EvAF c b tr ρ ds) : EvAF c b (tCons te tr) ρ (d :: ds) := fun O σ F H S Q k =>
  h O σ F H S _ fun v F1 H1 e1 h1 S1 d1 => hr O σ F1 H1 S1 _ fun vs F2 H2 e2 h2 S2 d2 => k _ F2 H2 (e1.trans e2) (h1.trans h2) S2 (.cons (d1.ex e2) d2)
/-- from a new object at p -/
theorem Sim.lay {O : Addr → Prop} {σ : St} {F H : Hp} {p : Addr} {o : HO} (S : Sim c O ρ σ F H) (hp : H p = none) : Sim c O ρ σ F (upd H p o) := S.grow (Evl.Ex.refl _) (Evl.Ex.new hp) (fun _ _ f => f) (S.ff.trans (Evl.Ex.new hp))
theorem Sim.notOwn {O : Addr → Prop} {σ : St} {F H : Hp} {p : Addr} (S : Sim c O ρ σ F H) (hp : H p = none) : NotOwn ρ σ p := fun i s o h1 h2 h3 => ((S.sl i s o h1 h2).owned h3).2 hp
theorem Sim.fresh {O : Addr → Prop} {σ : St} {F H : Hp} {p : Addr} (S : Sim c O ρ σ F H) (hp : H p = none) : F p = none := Evl.fresh_back S.ff hp
theorem el_lst {t : TA} {ds : List PyData} (h : EvAF c b t ρ ds) (hl : ds.length ≤ 100000) : EvL c b (tLst t) ρ ds := fun O σ F H S Q k => h O σ F H S _ fun vs F1 H1 e1 h1 S1 d1 =>
  ⟨Evl.sz_of (by rw [d1.length]; exact hl), fun p hp => k p vs F1 _ e1 (h1.trans (Evl.Ex.new hp)) (S1.lay hp) (Evl.fresh_back h1 hp) (S1.fresh hp) upd_same (S1.notOwn hp) d1⟩
theorem ev_tup {t : TA} {ds : List PyData} (h : EvAF c b t ρ ds) (hl : ds.length ≤ 100000) : Ev c b (tTup t) ρ (.tuple ds) := fun O σ F H S Q k => h O σ F H S _ fun vs F1 H1 e1 h1 S1 d1 =>
  ⟨Evl.sz_of (by rw [d1.length]; exact hl), fun p hp => by
    have e2 : Ex H1 (upd H1 p (.tup vs)) := Evl.Ex.new hp
    have n0 : c.H0 p = none := Evl.fresh_back S1.bb hp
    refine k _ (addF F1 H1 (upd H1 p (.tup vs))) _ (e1.trans (addF_ex S1.ff)) (h1.trans e2) (S1.add e2) (.tup (Cq.any n0) (.inl (by rw [addF_new hp]; exact upd_same)) (d1.ex (addF_ex S1.ff)))⟩
end
end DL

end
section
set_option maxRecDepth 100000
set_option maxHeartbeats 2000000
namespace DL
open PySem L2
/-! ### a list to be read whose items are frozen data -/
def EvE {K : PySem.W.Frag} (c : Cq K) (b : Bool) (te : TE) (ρ : Rho) (ds : List PyData) : Prop := ∀ (O : Addr → Prop) (σ : St) (F H : Hp), Sim c O ρ σ F H → ∀ Q : VK,
  (∀ a xs F' H', Ex F F' → Ex H H' → Sim c O ρ σ F' H' → SqL K H' a xs → DdAll (c.pw b) F' xs ds → Q (.ref a) H') → te σ H Q
theorem dd_sq {K : PySem.W.Frag} {m : Mode} {F H : Hp} {a : Addr} {xs : List V} (hl : ∀ a xs, m.L a xs → KL K a xs) (e : Ex F H) (r : (m.P a ∧ Rd F a (.lst xs)) ∨ m.L a xs) : SqL K H a xs := r.elim (fun r => .inl (Evl.ex_rd e r.2)) fun r => .inr (hl _ _ r)
theorem sq_ex {K : PySem.W.Frag} {H H' : Hp} {a : Addr} {xs : List V} (e : Ex H H') (h : SqL K H a xs) : SqL K H' a xs := Evl.ex_l e h
theorem sq_dd {K : PySem.W.Frag} {H : Hp} {a : Addr} {xs : List V} (h : SqL K H a xs) : ((T1 K).P a ∧ Rd H a (.lst xs)) ∨ (T1 K).L a xs := h.elim (fun r => .inl ⟨trivial, r⟩) .inr
theorem rd_ex {H H' : Hp} {a : Addr} {u : HO} (e : Ex H H') (h : Rd H a u) : Rd H' a u := Evl.ex_rd e h
/-! places and slices of any lists -/
def cutL {α : Type} (xs : List α) (lo hi : Option Int) : List α := (xs.drop (HT.sIx xs.length 0 lo)).take (HT.sIx xs.length xs.length hi - HT.sIx xs.length 0 lo)
theorem cutL_map {α β : Type} (f : α → β) (xs : List α) (lo hi : Option Int) : cutL (xs.map f) lo hi = (cutL xs lo hi).map f := by
  unfold cutL
  rw [List.length_map, List.map_take, List.map_drop]
theorem cutL_to {α : Type} (xs : List α) (k : Nat) : cutL xs none (some (k : Int)) = xs.take k := by
  unfold cutL
  rw [HT.sIx_none, HT.sIx_nat, List.drop_zero, Nat.sub_zero, ← List.take_eq_take_min]
theorem cutL_from {α : Type} (xs : List α) (k : Nat) : cutL xs (some (k : Int)) none = xs.drop k := by
  unfold cutL
  rw [HT.sIx_none, HT.sIx_nat]
  by_cases h : k ≤ xs.length
  · rw [Nat.min_eq_left h, List.take_of_length_le (by rw [List.length_drop]; omega)]
  · rw [Nat.min_eq_right (by omega), Nat.sub_self, List.take_zero, List.drop_eq_nil_of_le (by omega)]
theorem cutL_mid {α : Type} (xs : List α) (j k : Nat) : cutL xs (some (j : Int)) (some (k : Int)) = (xs.drop j).take (k - j) := by
  unfold cutL
  rw [HT.sIx_nat, HT.sIx_nat]
  by_cases h : j ≤ xs.length
  · rw [Nat.min_eq_left h]
    by_cases h2 : k ≤ xs.length
    · rw [Nat.min_eq_left h2]
    · rw [Nat.min_eq_right (by omega), List.take_of_length_le (by rw [List.length_drop]; omega), List.take_of_length_le (by rw [List.length_drop]; omega)]
  · rw [Nat.min_eq_right (show xs.length ≤ j by omega), List.drop_eq_nil_of_le (Nat.le_refl _), List.drop_eq_nil_of_le (show xs.length ≤ j by omega)]
    simp
theorem cutL_all {α : Type} (xs : List α) : cutL xs none none = xs := by
  unfold cutL
  rw [HT.sIx_none, HT.sIx_none]
  simp
theorem DdAll.cut {m : Mode} {H : Hp} {vs : List V} {ds : List PyData} (h : DdAll m H vs ds) (lo hi : Option Int) : DdAll m H (cutV vs lo hi) (cutL ds lo hi) := by
  unfold cutV cutL
  rw [h.length]
  exact (h.drop _).take _
theorem DdAll.at {m : Mode} {H : Hp} {vs : List V} {ds : List PyData} {i : Int} {d : PyData} (h : DdAll m H vs ds) (e : atI ds i = some d) : ∃ v, atI vs i = some v ∧ Dd m H v d := by
  unfold atI at *
  rw [h.length]
  cases q : ixN ds.length i with
  | none => rw [q] at e; cases e
  | some j =>
    rw [q] at e
    obtain ⟨v, a, b⟩ := h.get (i := j) e
    exact ⟨v, a, b⟩
theorem atI_map {α β : Type} (f : α → β) (xs : List α) (i : Int) : atI (xs.map f) i = (atI xs i).map f := by
  unfold atI
  rw [List.length_map]
  cases ixN xs.length i with
  | none => rfl
  | some j => show (xs.map f)[j]? = (xs[j]?).map f; rw [List.getElem?_map]
theorem atI_mapS {α β : Type} {f : α → β} {xs : List α} {i : Int} {x : α} (h : atI xs i = some x) : atI (xs.map f) i = some (f x) := by rw [atI_map, h]; rfl
theorem atI_natI {α : Type} {xs : List α} {i : Int} {v : α} (h0 : 0 ≤ i) (h : xs[i.toNat]? = some v) : atI xs i = some v := by
  have e : i = (i.toNat : Int) := by omega
  rw [e]
  exact atI_nat h
theorem atI_zero {α : Type} {xs : List α} {x : α} : atI (x :: xs) 0 = some x := atI_nat (j := 0) rfl
theorem atI_one {α : Type} {xs : List α} {x y : α} : atI (x :: y :: xs) 1 = some y := atI_nat (j := 1) rfl
theorem atI_two {α : Type} {xs : List α} {x y z : α} : atI (x :: y :: z :: xs) 2 = some z := atI_nat (j := 2) rfl
theorem atI_back {α : Type} {xs : List α} {v : α} (h : xs.getLast? = some v) : atI xs (-1) = some v := by
  obtain ⟨ys, rfl⟩ := List.getLast?_eq_some_iff.mp h
  exact atI_last ys v
section
variable {K : PySem.W.Frag} {c : Cq K} {b b' : Bool} {te ta tb tx : TE} {tt tu : TT} {ρ : Rho} {d : PyData} {ds es : List PyData} {i j : Int}
theorem EvE.is (h : EvE c b te ρ ds) (q : ds = es) : EvE c b te ρ es := q ▸ h
theorem Ev.e (h : Ev c b te ρ (.list ds)) : EvE c b te ρ ds := fun O σ F H S Q k => h O σ F H S Q fun v F' H' e1 e2 S' dd => by
  cases dd with
  | lst r q => exact k _ _ F' H' e1 e2 S' (dd_sq Cq.kl S'.ff r) q
theorem EvL.e (h : EvL c b te ρ ds) : EvE c b te ρ ds := h.ev.e
theorem ee_own {k : Nat} (h : ρ[k]? = some (.own b ds)) : EvE c b (tVar k) ρ ds := fun O σ F H S Q q => by
  obtain ⟨o, ho, a, xs, e, f0, h1, dd⟩ := S.get h
  exact ⟨_, by rw [ho, e], q _ xs F H (Evl.Ex.refl _) (Evl.Ex.refl _) S (.inl (.inl h1)) dd⟩
theorem ee_val {k : Nat} (h : ρ[k]? = some (.val b (.list ds))) : EvE c b (tVar k) ρ ds := (ev_var h).e
theorem EvE.weak (h : EvE c true te ρ ds) : EvE c false te ρ ds := fun O σ F H S Q k => h O σ F H S Q fun a xs F' H' e1 e2 S' r dd => k a xs F' H' e1 e2 S' r (dd.up Cq.more (Evl.Ex.refl _))
theorem EvE.r (h : EvE c b te ρ ds) : EvR c te ρ (.list ds) := fun O σ F H S Q k => h O σ F H S Q fun a xs F' H' e1 e2 S' r dd => k _ F' H' e1 e2 S' (.lst (sq_dd r) (dd.up ⟨fun _ _ => trivial, Cq.kl⟩ S'.ff))
/-! index -/
theorem ev_ix (ha : EvE c b ta ρ ds) (hb : EvR c tb ρ (.int i)) (h : atI ds i = some d) : Ev c b (tOp (rIxL K) ta tb) ρ d := fun O σ F H S Q k =>
  ha O σ F H S _ fun a xs F1 H1 e1 h1 S1 r1 d1 => hb O σ F1 H1 S1 _ fun w F2 H2 e2 h2 S2 d2 => by
    cases d2
    obtain ⟨v, q1, q2⟩ := (d1.ex e2).at h
    exact ⟨a, xs, i, v, rfl, rfl, sq_ex h2 r1, q1, k v F2 H2 (e1.trans e2) (h1.trans h2) S2 q2⟩
/-- an int out of a list that is only read -/
theorem ev_ixR (ha : EvR c ta ρ (.list ds)) (hb : EvR c tb ρ (.int i)) (h : atI ds i = some d) : EvR c (tOp (rIxL K) ta tb) ρ d := fun O σ F H S Q k =>
  ha O σ F H S _ fun v F1 H1 e1 h1 S1 d1 => hb O σ F1 H1 S1 _ fun w F2 H2 e2 h2 S2 d2 => by
    cases d2
    cases d1 with
    | lst r q =>
      obtain ⟨v, q1, q2⟩ := (q.ex h2).at h
      exact ⟨_, _, i, v, rfl, rfl, dd_sq (fun _ _ h => h) h2 r, q1, k v F2 H2 (e1.trans e2) (h1.trans h2) S2 q2⟩
theorem ev_ixT (ha : Ev c b ta ρ (.tuple ds)) (hb : EvR c tb ρ (.int i)) (h : atI ds i = some d) : Ev c b (tOp (rIxT K) ta tb) ρ d := fun O σ F H S Q k =>
  ha O σ F H S _ fun v F1 H1 e1 h1 S1 d1 => hb O σ F1 H1 S1 _ fun w F2 H2 e2 h2 S2 d2 => by
    cases d2
    cases d1 with
    | tup p r q =>
      obtain ⟨v, q1, q2⟩ := (q.ex e2).at h
      exact ⟨_, _, i, v, rfl, rfl, .inl (rd_ex (e2.trans S2.ff) r), q1, k v F2 H2 (e1.trans e2) (h1.trans h2) S2 q2⟩
theorem ev_ixS {z : Str} {n : Nat} (ha : EvR c ta ρ (.str z)) (hb : EvR c tb ρ (.int i)) (hl : z.length ≤ 100000) (h : atI z.cps.toList i = some n) : Ev c b (tOp rIxS ta tb) ρ (.str ⟨#[n]⟩) := fun O σ F H S Q k =>
  ha O σ F H S _ fun v F1 H1 e1 h1 S1 d1 => hb O σ F1 H1 S1 _ fun w F2 H2 e2 h2 S2 d2 => by
    cases d2
    cases d1
    exact ⟨z, i, n, rfl, rfl, Evl.sz_of hl, h, k _ F2 H2 (e1.trans e2) (h1.trans h2) S2 (.str _)⟩
/-! slices -/
theorem eo_none : EvO c tNoPart ρ none := fun O σ F H S Q k => k F H (Evl.Ex.refl _) (Evl.Ex.refl _) S
theorem eo_some (h : EvR c te ρ (.int i)) : EvO c (tPart te) ρ (some i) := fun O σ F H S Q k => h O σ F H S _ fun v F1 H1 e1 h1 S1 d1 => by
  cases d1
  exact ⟨i, rfl, k F1 H1 e1 h1 S1⟩
/-- a new list whose items are ds, from its laying -/
theorem lay_list {O : Addr → Prop} {σ : St} {F H F1 H1 : Hp} {xs : List V} {Q : VK} (k : ∀ p xs F' H', Ex F F' → Ex H H' → Sim c O ρ σ F' H' → H p = none → F' p = none → H' p = some (.lst xs) → NotOwn ρ σ p → DdAll (c.pw b) F' xs ds → Q (.ref p) H')
    (e1 : Ex F F1) (h1 : Ex H H1) (S1 : Sim c O ρ σ F1 H1) (d1 : DdAll (c.pw b) F1 xs ds) : ∀ p, H1 p = none → Q (.ref p) (upd H1 p (.lst xs)) := fun p hp =>
  k p xs F1 _ e1 (h1.trans (Evl.Ex.new hp)) (S1.lay hp) (Evl.fresh_back h1 hp) (S1.fresh hp) upd_same (S1.notOwn hp) d1
theorem el_sl {tl th : TO} {lo hi : Option Int} (h : EvE c b te ρ ds) (h1 : EvO c tl ρ lo) (h2 : EvO c th ρ hi) : EvL c b (tSl (rSlL K) te tl th) ρ (cutL ds lo hi) := fun O σ F H S Q k =>
  h O σ F H S _ fun a xs F1 H1 e1 g1 S1 r1 d1 => h1 O σ F1 H1 S1 _ fun F2 H2 e2 g2 S2 => h2 O σ F2 H2 S2 _ fun F3 H3 e3 g3 S3 =>
    ⟨a, xs, rfl, sq_ex (g2.trans g3) r1, lay_list k (e1.trans (e2.trans e3)) (g1.trans (g2.trans g3)) S3 ((d1.ex (e2.trans e3)).cut lo hi)⟩
theorem ev_slS {tl th : TO} {lo hi : Option Int} {z : Str} {f : Str → Option Int → Option Int → Str} (h : EvR c te ρ (.str z)) (h1 : EvO c tl ρ lo) (h2 : EvO c th ρ hi) (hl : z.length ≤ 100000) : Ev c b (tSl (fun x lo hi H Q => ∃ z, x = .str z ∧ z.length ≤ sizeLine ∧ Q (.str (f z lo hi)) H) te tl th) ρ (.str (f z lo hi)) := fun O σ F H S Q k =>
  h O σ F H S _ fun a F1 H1 e1 g1 S1 d1 => h1 O σ F1 H1 S1 _ fun F2 H2 e2 g2 S2 => h2 O σ F2 H2 S2 _ fun F3 H3 e3 g3 S3 => by
    cases d1
    exact ⟨z, rfl, Evl.sz_of hl, k _ F3 H3 (e1.trans (e2.trans e3)) (g1.trans (g2.trans g3)) S3 (.str _)⟩
theorem el_rev (h : EvE c b te ρ ds) : EvL c b (fun σ H Q => te σ H fun x H1 => ∃ a xs, x = V.ref a ∧ SqL K H1 a xs ∧ ∀ p, H1 p = none → Q (.ref p) (upd H1 p (.lst xs.reverse))) ρ ds.reverse := fun O σ F H S Q k =>
  h O σ F H S _ fun a xs F1 H1 e1 g1 S1 r1 d1 => ⟨a, xs, rfl, r1, lay_list k e1 g1 S1 d1.reverse⟩
/-! built-in calls -/
theorem ev_len (h : EvR c te ρ (.list ds)) : Ev c b (tCB (fun xs H Q => ∃ p ys, xs = [V.ref p] ∧ (SqL K H p ys ∨ SqT K H p ys) ∧ Q (.int ys.length) H) (tCons te tNil)) ρ (.int (ds.length : Int)) := fun O σ F H S Q k =>
  h O σ F H S _ fun v F1 H1 e1 h1 S1 d1 => by
    cases d1 with
    | lst r q => exact ⟨_, _, rfl, .inl (dd_sq (fun _ _ h => h) (Evl.Ex.refl _) r), k _ F1 H1 e1 h1 S1 (by rw [q.length]; exact .int _)⟩
theorem ev_lenT (h : EvR c te ρ (.tuple ds)) : Ev c b (tCB (fun xs H Q => ∃ p ys, xs = [V.ref p] ∧ (SqL K H p ys ∨ SqT K H p ys) ∧ Q (.int ys.length) H) (tCons te tNil)) ρ (.int (ds.length : Int)) := fun O σ F H S Q k =>
  h O σ F H S _ fun v F1 H1 e1 h1 S1 d1 => by
    cases d1 with
    | tup p r q => exact ⟨_, _, rfl, .inr (.inl r), k _ F1 H1 e1 h1 S1 (by rw [q.length]; exact .int _)⟩
theorem ev_lenS {z : Str} (h : EvR c te ρ (.str z)) (hl : z.length ≤ 100000) : Ev c b (tCB (fun xs H Q => ∃ z, xs = [V.str z] ∧ z.length ≤ sizeLine ∧ Q (.int z.length) H) (tCons te tNil)) ρ (.int (z.length : Int)) := fun O σ F H S Q k =>
  h O σ F H S _ fun v F1 H1 e1 h1 S1 d1 => by
    cases d1
    exact ⟨z, rfl, Evl.sz_of hl, k _ F1 H1 e1 h1 S1 (.int _)⟩
theorem el_listOf (h : EvE c b te ρ ds) : EvL c b (tCB (fun xs H Q => ∃ p ys, xs = [V.ref p] ∧ (SqL K H p ys ∨ SqT K H p ys) ∧ ∀ l, H l = none → Q (.ref l) (upd H l (.lst ys))) (tCons te tNil)) ρ ds := fun O σ F H S Q k =>
  h O σ F H S _ fun a xs F1 H1 e1 h1 S1 r1 d1 => ⟨a, xs, rfl, .inl r1, lay_list k e1 h1 S1 d1⟩
theorem ev_max2 (ha : EvR c ta ρ (.int i)) (hb : EvR c tb ρ (.int j)) : Ev c b (tCB (fun xs H Q => ∃ i j, xs = [V.int i, .int j] ∧ Q (.int (if j > i then j else i)) H) (tCons ta (tCons tb tNil))) ρ (.int (max i j)) := fun O σ F H S Q k => by
  refine ha O σ F H S _ fun v F1 H1 e1 h1 S1 d1 => hb O σ F1 H1 S1 _ fun w F2 H2 e2 h2 S2 d2 => ?_
  cases d1; cases d2
  refine ⟨i, j, rfl, k _ F2 H2 (e1.trans e2) (h1.trans h2) S2 ?_⟩
  have q : (if j > i then j else i) = max i j := by split <;> omega
  rw [q]
  exact .int _
theorem ev_min2 (ha : EvR c ta ρ (.int i)) (hb : EvR c tb ρ (.int j)) : Ev c b (tCB (fun xs H Q => ∃ i j, xs = [V.int i, .int j] ∧ Q (.int (if j < i then j else i)) H) (tCons ta (tCons tb tNil))) ρ (.int (min i j)) := fun O σ F H S Q k => by
  refine ha O σ F H S _ fun v F1 H1 e1 h1 S1 d1 => hb O σ F1 H1 S1 _ fun w F2 H2 e2 h2 S2 d2 => ?_
  cases d1; cases d2
  refine ⟨i, j, rfl, k _ F2 H2 (e1.trans e2) (h1.trans h2) S2 ?_⟩
  have q : (if j < i then j else i) = min i j := by split <;> omega
  rw [q]
  exact .int _
theorem ev_intB {x : Bool} (ha : EvR c ta ρ (.bool x)) : Ev c b (tCB (fun xs H Q => (∃ i, xs = [V.int i] ∧ Q (.int i) H) ∨ ∃ k, xs = [V.bl k] ∧ Q (.int (if k then 1 else 0)) H) (tCons ta tNil)) ρ (.int (if x then 1 else 0)) := fun O σ F H S Q k => by
  refine ha O σ F H S _ fun v F1 H1 e1 h1 S1 d1 => ?_
  cases d1
  exact .inr ⟨x, rfl, k _ F1 H1 e1 h1 S1 (.int _)⟩
theorem ev_strI (ha : EvR c ta ρ (.int i)) (hl : i.natAbs.log2 < 1920) : Ev c b (tCB (fun xs H Q => ∃ i, xs = [V.int i] ∧ i.natAbs.log2 < 1920 ∧ Q (.str (toString i)) H) (tCons ta tNil)) ρ (.str (toString i)) := fun O σ F H S Q k => by
  refine ha O σ F H S _ fun v F1 H1 e1 h1 S1 d1 => ?_
  cases d1
  exact ⟨i, rfl, hl, k _ F1 H1 e1 h1 S1 (.str _)⟩
theorem ev_sum {ns : List Int} (ha : EvR c ta ρ (.list (ns.map PyData.int))) : Ev c b (tCB (rSum K) (tCons ta tNil)) ρ (.int ns.sum) := fun O σ F H S Q k => by
  refine ha O σ F H S _ fun v F1 H1 e1 h1 S1 d1 => ?_
  cases d1 with
  | lst r q =>
    have e := q.ints
    subst e
    exact ⟨_, ns, rfl, dd_sq (fun _ _ h => h) (Evl.Ex.refl _) r, k _ F1 H1 e1 h1 S1 (.int _)⟩
theorem ev_min {ns : List Int} {m : Int} (ha : EvR c ta ρ (.list (ns.map PyData.int))) (hm : m ∈ ns) (hle : ∀ y ∈ ns, m ≤ y) : Ev c b (tCB (rMin K) (tCons ta tNil)) ρ (.int m) := fun O σ F H S Q k => by
  refine ha O σ F H S _ fun v F1 H1 e1 h1 S1 d1 => ?_
  cases d1 with
  | lst r q =>
    have e := q.ints
    subst e
    refine ⟨_, ns, rfl, dd_sq (fun _ _ h => h) (Evl.Ex.refl _) r, List.length_pos_of_mem hm, fun n h1' h2' => ?_⟩
    have e : n = m := by
      have a1 := h2' m hm
      have a2 := hle n h1'
      omega
    rw [e]
    exact k _ F1 H1 e1 h1 S1 (.int _)
theorem ev_max {ns : List Int} {m : Int} (ha : EvR c ta ρ (.list (ns.map PyData.int))) (hm : m ∈ ns) (hle : ∀ y ∈ ns, y ≤ m) : Ev c b (tCB (rMax K) (tCons ta tNil)) ρ (.int m) := fun O σ F H S Q k => by
  refine ha O σ F H S _ fun v F1 H1 e1 h1 S1 d1 => ?_
  cases d1 with
  | lst r q =>
    have e := q.ints
    subst e
    refine ⟨_, ns, rfl, dd_sq (fun _ _ h => h) (Evl.Ex.refl _) r, List.length_pos_of_mem hm, fun n h1' h2' => ?_⟩
    have e : n = m := by
      have a1 := h2' m hm
      have a2 := hle n h1'
      omega
    rw [e]
    exact k _ F1 H1 e1 h1 S1 (.int _)
theorem ev_all {bs : List Bool} (ha : EvR c ta ρ (.list (bs.map PyData.bool))) : Ev c b (tCB (rAll K) (tCons ta tNil)) ρ (.bool (bs.all id)) := fun O σ F H S Q k => by
  refine ha O σ F H S _ fun v F1 H1 e1 h1 S1 d1 => ?_
  cases d1 with
  | lst r q =>
    have e := q.bls
    subst e
    exact ⟨_, bs, rfl, dd_sq (fun _ _ h => h) (Evl.Ex.refl _) r, k _ F1 H1 e1 h1 S1 (.bl _)⟩
/-! in, over flat things -/
def flatD : PyData → Bool
  | .none => true
  | .bool _ => true
  | .int _ => true
  | .str _ => true
  | _ => false
theorem inV_int {ns : List Int} {k : Int} : inV (.int k) (ns.map V.int) = decide (k ∈ ns) := by
  induction ns with
  | nil => rfl
  | cons n r ih =>
    unfold inV at *
    rw [List.map_cons, List.any_cons, ih]
    show (n == k || _) = _
    by_cases h : n = k
    · subst h; simp
    · have h2 : ¬ k = n := fun e => h e.symm
      simp [h, h2]
theorem flat_ints (ns : List Int) : (ns.map V.int).all flatV = true := by simp [flatV]
theorem ev_inI {ns : List Int} (ha : EvR c ta ρ (.int i)) (hb : EvR c tb ρ (.list (ns.map PyData.int))) : Ev c b (tOp (rIn K false) ta tb) ρ (.bool (decide (i ∈ ns))) := fun O σ F H S Q k =>
  ha O σ F H S _ fun v F1 H1 e1 h1 S1 d1 => hb O σ F1 H1 S1 _ fun w F2 H2 e2 h2 S2 d2 => by
    cases d1
    cases d2 with
    | lst r q =>
      have e := q.ints
      subst e
      refine ⟨_, _, rfl, .inl (dd_sq (fun _ _ h => h) (Evl.Ex.refl _) r), rfl, flat_ints ns, ?_⟩
      rw [inV_int]
      exact k _ F2 H2 (e1.trans e2) (h1.trans h2) S2 (.bl _)
theorem ev_niI {ns : List Int} (ha : EvR c ta ρ (.int i)) (hb : EvR c tb ρ (.list (ns.map PyData.int))) : Ev c b (tOp (rIn K true) ta tb) ρ (.bool (!decide (i ∈ ns))) := fun O σ F H S Q k =>
  ha O σ F H S _ fun v F1 H1 e1 h1 S1 d1 => hb O σ F1 H1 S1 _ fun w F2 H2 e2 h2 S2 d2 => by
    cases d1
    cases d2 with
    | lst r q =>
      have e := q.ints
      subst e
      refine ⟨_, _, rfl, .inl (dd_sq (fun _ _ h => h) (Evl.Ex.refl _) r), rfl, flat_ints ns, ?_⟩
      rw [inV_int]
      exact k _ F2 H2 (e1.trans e2) (h1.trans h2) S2 (.bl _)
theorem inV_str {ns : List Str} {k : Str} : inV (.str k) (ns.map V.str) = decide (k ∈ ns) := by
  induction ns with
  | nil => rfl
  | cons n r ih =>
    unfold inV at *
    rw [List.map_cons, List.any_cons, ih]
    show (n == k || _) = _
    by_cases h : n = k
    · subst h; simp
    · have h2 : ¬ k = n := fun e => h e.symm
      simp [h, h2]
theorem flat_strs (ns : List Str) : (ns.map V.str).all flatV = true := by simp [flatV]
theorem ev_inZ {ns : List Str} {z : Str} (ha : EvR c ta ρ (.str z)) (hb : EvR c tb ρ (.list (ns.map PyData.str))) : Ev c b (tOp (rIn K false) ta tb) ρ (.bool (decide (z ∈ ns))) := fun O σ F H S Q k =>
  ha O σ F H S _ fun v F1 H1 e1 h1 S1 d1 => hb O σ F1 H1 S1 _ fun w F2 H2 e2 h2 S2 d2 => by
    cases d1
    cases d2 with
    | lst r q =>
      have e := q.strs
      subst e
      refine ⟨_, _, rfl, .inl (dd_sq (fun _ _ h => h) (Evl.Ex.refl _) r), rfl, flat_strs ns, ?_⟩
      rw [inV_str]
      exact k _ F2 H2 (e1.trans e2) (h1.trans h2) S2 (.bl _)
theorem ev_niZ {ns : List Str} {z : Str} (ha : EvR c ta ρ (.str z)) (hb : EvR c tb ρ (.list (ns.map PyData.str))) : Ev c b (tOp (rIn K true) ta tb) ρ (.bool (!decide (z ∈ ns))) := fun O σ F H S Q k =>
  ha O σ F H S _ fun v F1 H1 e1 h1 S1 d1 => hb O σ F1 H1 S1 _ fun w F2 H2 e2 h2 S2 d2 => by
    cases d1
    cases d2 with
    | lst r q =>
      have e := q.strs
      subst e
      refine ⟨_, _, rfl, .inl (dd_sq (fun _ _ h => h) (Evl.Ex.refl _) r), rfl, flat_strs ns, ?_⟩
      rw [inV_str]
      exact k _ F2 H2 (e1.trans e2) (h1.trans h2) S2 (.bl _)
theorem ev_addS {x y : Str} (ha : EvR c ta ρ (.str x)) (hb : EvR c tb ρ (.str y)) (hl : x.length + y.length ≤ 100000) : Ev c b (tOp (fun x y H Q => ∃ i j, x = V.str i ∧ y = V.str j ∧ i.length + j.length ≤ sizeLine ∧ Q (.str (i ++ j)) H) ta tb) ρ (.str (x ++ y)) := fun O σ F H S Q k =>
  ha O σ F H S _ fun v F1 H1 e1 h1 S1 d1 => hb O σ F1 H1 S1 _ fun w F2 H2 e2 h2 S2 d2 => by
    cases d1
    cases d2
    exact ⟨x, y, rfl, rfl, Evl.sz_of hl, k _ F2 H2 (e1.trans e2) (h1.trans h2) S2 (.str _)⟩
/-! x is None -/
theorem ev_isN (ha : EvR c ta ρ d) (hb : EvR c tb ρ .none) : Ev c b (tOp (fun x y H Q => y = V.non ∧ Q (.bl (decide (x = .non))) H) ta tb) ρ (.bool (match d with | .none => true | _ => false)) := fun O σ F H S Q k =>
  ha O σ F H S _ fun v F1 H1 e1 h1 S1 d1 => hb O σ F1 H1 S1 _ fun w F2 H2 e2 h2 S2 d2 => by
    cases d2
    refine ⟨rfl, k _ F2 H2 (e1.trans e2) (h1.trans h2) S2 ?_⟩
    cases d1 <;> exact .bl _
theorem ev_notN (ha : EvR c ta ρ d) (hb : EvR c tb ρ .none) : Ev c b (tOp (fun x y H Q => y = V.non ∧ Q (.bl (!decide (x = .non))) H) ta tb) ρ (.bool (match d with | .none => false | _ => true)) := fun O σ F H S Q k =>
  ha O σ F H S _ fun v F1 H1 e1 h1 S1 d1 => hb O σ F1 H1 S1 _ fun w F2 H2 e2 h2 S2 d2 => by
    cases d2
    refine ⟨rfl, k _ F2 H2 (e1.trans e2) (h1.trans h2) S2 ?_⟩
    cases d1 <;> exact .bl _
end
end DL

end
section
set_option maxRecDepth 100000
set_option maxHeartbeats 2000000
namespace DL
open PySem L2
/-! ### stores into slots -/
section
variable {K : PySem.W.Frag} {c : Cq K} {O O' : Addr → Prop} {ρ ρ' : Rho} {σ : St} {F H F' H' : Hp} {b : Bool} {d : PyData} {ds : List PyData}
theorem Sim.sub (S : Sim c O ρ σ F H) (h : ∀ a, O' a → F a = none ∧ H a ≠ none) : Sim c O' ρ σ F H := ⟨S.base, S.ff, h, S.len, S.sl, S.apart⟩
theorem Sim.setS (S : Sim c O ρ σ F H) {j : Nat} {s : Sl} {o : Option V} (x : SlOk c F H s o) (ap : ∀ a, s.Owns o a → NotOwn ρ σ a) : Sim c O (ρ.set j s) (σ.set j o) F H := by
  refine ⟨S.base, S.ff, S.prot, by rw [List.length_set, List.length_set]; exact S.len, fun i t p h1 h2 => ?_, fun i k t u p q a h1 h2 h3 h4 h5 h6 => ?_⟩
  · by_cases e : j = i
    · subst e
      rw [List.getElem?_set] at h1 h2
      split at h1
      · split at h1
        · cases h1
          rw [if_pos rfl] at h2
          split at h2
          · cases h2; exact x
          · cases h2
        · cases h1
      · exact absurd rfl (by assumption)
    · rw [List.getElem?_set_ne e] at h1 h2
      exact S.sl i t p h1 h2
  · have g : ∀ (i : Nat) (t : Sl) (p : Option V), (ρ.set j s)[i]? = some t → (σ.set j o)[i]? = some p → (i = j ∧ t = s ∧ p = o) ∨ (i ≠ j ∧ ρ[i]? = some t ∧ σ[i]? = some p) := fun i t p h1 h2 => by
      by_cases e : j = i
      · subst e
        rw [List.getElem?_set] at h1 h2
        rw [if_pos rfl] at h1 h2
        split at h1
        · split at h2
          · cases h1; cases h2; exact .inl ⟨rfl, rfl, rfl⟩
          · cases h2
        · cases h1
      · rw [List.getElem?_set_ne e] at h1 h2
        exact .inr ⟨fun z => e z.symm, h1, h2⟩
    rcases g i t p h1 h3 with ⟨e1, e2, e3⟩ | ⟨e1, e2, e3⟩
    · rcases g k u q h2 h4 with ⟨f1, f2, f3⟩ | ⟨f1, f2, f3⟩
      · rw [e1, f1]
      · subst e2; subst e3
        exact absurd h6 (ap a h5 k u q f2 f3)
    · rcases g k u q h2 h4 with ⟨f1, f2, f3⟩ | ⟨f1, f2, f3⟩
      · subst f2; subst f3
        exact absurd h5 (ap a h6 i t p e2 e3)
      · exact S.apart i k t u p q a e2 f2 e3 f3 h5 h6
theorem Sim.setVal (S : Sim c O ρ σ F H) {v : V} (j : Nat) (x : Dd (c.pw b) F v d) : Sim c O (ρ.set j (.val b d)) (σ.set j (some v)) F H := S.setS ⟨v, rfl, x⟩ fun a (h : False) => h.elim
theorem Sim.setOwn (S : Sim c O ρ σ F H) {p : Addr} {xs : List V} (j : Nat) (fp : F p = none) (hp : H p = some (.lst xs)) (no : NotOwn ρ σ p) (x : DdAll (c.pw b) F xs ds) :
    Sim c O (ρ.set j (.own b ds)) (σ.set j (some (.ref p))) F H := S.setS ⟨p, xs, rfl, fp, hp, x⟩ fun a (e : some (V.ref p) = some (V.ref a)) => by
  cases e
  exact no
/-- slots forgotten -/
inductive Le : Rho → Rho → Prop
  | nil : Le [] []
  | keep {s : Sl} {r r' : Rho} : Le r r' → Le (s :: r) (s :: r')
  | drop {s : Sl} {r r' : Rho} : Le r r' → Le (.no :: r) (s :: r')
  | old {d : PyData} {r r' : Rho} : Le r r' → Le (.val false d :: r) (.val true d :: r')
  | sca {b b' : Bool} {d : PyData} {r r' : Rho} : isSca d = true → Le r r' → Le (.val b d :: r) (.val b' d :: r')
  | eq {s s' : Sl} {r r' : Rho} : s = s' → Le r r' → Le (s :: r) (s' :: r')
theorem Le.refl : ∀ (ρ : Rho), Le ρ ρ
  | [] => .nil
  | _ :: r => .keep (Le.refl r)
theorem Le.length : ∀ {ρ ρ' : Rho}, Le ρ ρ' → ρ.length = ρ'.length
  | _, _, .nil => rfl
  | _, _, .keep h => by simp [Le.length h]
  | _, _, .drop h => by simp [Le.length h]
  | _, _, .old h => by simp [Le.length h]
  | _, _, .sca _ h => by simp [Le.length h]
  | _, _, .eq _ h => by simp [Le.length h]
/-- a slot that is known less -/
def LeS (s s' : Sl) : Prop := s = .no ∨ s = s' ∨ (∃ d, s = .val false d ∧ s' = .val true d) ∨ ∃ b b' d, isSca d = true ∧ s = .val b d ∧ s' = .val b' d
theorem Le.get : ∀ {ρ ρ' : Rho}, Le ρ ρ' → ∀ (i : Nat) (s : Sl), ρ[i]? = some s → ∃ s', ρ'[i]? = some s' ∧ LeS s s'
  | _, _, .nil, i, s, h => by simp at h
  | _, _, .keep l, 0, s, h => by simp at h; subst h; exact ⟨_, rfl, .inr (.inl rfl)⟩
  | _, _, .drop l, 0, s, h => by simp at h; subst h; exact ⟨_, rfl, .inl rfl⟩
  | _, _, .old l, 0, s, h => by simp at h; subst h; exact ⟨_, rfl, .inr (.inr (.inl ⟨_, rfl, rfl⟩))⟩
  | _, _, .sca q l, 0, s, h => by simp at h; subst h; exact ⟨_, rfl, .inr (.inr (.inr ⟨_, _, _, q, rfl, rfl⟩))⟩
  | _, _, .eq e l, 0, s, h => by simp at h; subst h; exact ⟨_, rfl, .inr (.inl e)⟩
  | _, _, .keep l, i + 1, s, h => by simpa using Le.get l i s (by simpa using h)
  | _, _, .drop l, i + 1, s, h => by simpa using Le.get l i s (by simpa using h)
  | _, _, .old l, i + 1, s, h => by simpa using Le.get l i s (by simpa using h)
  | _, _, .sca _ l, i + 1, s, h => by simpa using Le.get l i s (by simpa using h)
  | _, _, .eq _ l, i + 1, s, h => by simpa using Le.get l i s (by simpa using h)
theorem LeS.ok {s s' : Sl} {o : Option V} (l : LeS s s') (x : SlOk c F H s' o) : SlOk c F H s o := by
  rcases l with rfl | rfl | ⟨d, rfl, rfl⟩ | ⟨b, b', d, q, rfl, rfl⟩
  · trivial
  · exact x
  · obtain ⟨v, e, d⟩ := x
    exact ⟨v, e, d.up Cq.more (Evl.Ex.refl _)⟩
  · obtain ⟨v, e, d⟩ := x
    exact ⟨v, e, d.sca q⟩
theorem LeS.own {s s' : Sl} {o : Option V} {a : Addr} (l : LeS s s') (h : s.Owns o a) : s'.Owns o a := by
  rcases l with rfl | rfl | ⟨d, rfl, rfl⟩ | ⟨b, b', d, q, rfl, rfl⟩
  · exact (show False from h).elim
  · exact h
  · exact (show False from h).elim
  · exact (show False from h).elim
theorem Sim.le (S : Sim c O ρ' σ F H) (l : Le ρ ρ') : Sim c O ρ σ F H :=
  ⟨S.base, S.ff, S.prot, by rw [S.len, l.length], fun i s o h1 h2 => by
    obtain ⟨s', e, q⟩ := l.get i s h1
    exact q.ok (S.sl i s' o e h2), fun i j s t o o' a h1 h2 h3 h4 h5 h6 => by
    obtain ⟨s', e, q⟩ := l.get i s h1
    obtain ⟨t', e', q'⟩ := l.get j t h2
    exact S.apart i j s' t' o o' a e e' h3 h4 (q.own h5) (q'.own h6)⟩
/-- the owned list in slot i becomes data -/
theorem Sim.freeze (S : Sim c O ρ σ F H) {i : Nat} (h : ρ[i]? = some (.own b ds)) : ∃ F', Ex F F' ∧ Sim c (fun _ => False) (ρ.set i (.val b (.list ds))) σ F' H := by
  obtain ⟨o, ho, a, xs, e, f0, h1, dd⟩ := S.get h
  subst e
  have ef : Ex F (upd F a (.lst xs)) := Evl.Ex.new f0
  have n0 : c.H0 a = none := Evl.fresh_back S.base f0
  have ff : Ex (upd F a (.lst xs)) H := fun x o e => by
    by_cases z : x = a
    · subst z; rw [upd_same] at e; cases e; exact h1
    · rw [upd_ne z] at e; exact S.ff x o e
  refine ⟨_, ef, S.base.trans ef, ff, fun _ h => h.elim, by rw [List.length_set]; exact S.len, fun k s o h3 h4 => ?_, fun k l s t p q x h3 h4 h5 h6 h7 h8 => ?_⟩
  · rw [List.getElem?_set] at h3
    split at h3
    · split at h3
      · cases h3
        rename_i q _
        subst q
        rw [ho] at h4
        cases h4
        exact ⟨_, rfl, .lst (.inl ⟨Cq.any n0, .inl upd_same⟩) (dd.ex ef)⟩
      · cases h3
    · rename_i nik
      have x := S.sl k s o h3 h4
      refine x.move ef fun a' ha => ⟨?_, rfl⟩
      have z : a' ≠ a := fun z => by
        subst z
        exact nik (S.apart i k _ _ _ _ a' h h3 ho h4 rfl ha)
      rw [upd_ne z]
      exact (x.owned ha).1
  · have g : ∀ (k : Nat) (s : Sl) (p : Option V), (ρ.set i (.val b (.list ds)))[k]? = some s → s.Owns p x → ρ[k]? = some s := fun k s p q1 q2 => by
      rw [List.getElem?_set] at q1
      split at q1
      · split at q1
        · cases q1; exact (show False from q2).elim
        · cases q1
      · exact q1
    exact S.apart k l s t p q x (g k s p h3 h7) (g l t q h4 h8) h5 h6 h7 h8
/-- the owned list in slot i is changed -/
theorem Sim.write (S : Sim c O ρ σ F H) {i : Nat} {p : Addr} {xs ys : List V} {es : List PyData} (h : ρ[i]? = some (.own b ds)) (ho : σ[i]? = some (some (V.ref p))) (hp : H p = some (.lst xs)) (x : DdAll (c.pw b) F ys es) :
    Sim c O (ρ.set i (.own b es)) σ F (upd H p (.lst ys)) := by
  obtain ⟨o, ho', a, xs', e, f0, h1, dd⟩ := S.get h
  rw [ho] at ho'
  cases ho'
  cases e
  refine ⟨S.base, S.ff.mut f0, fun x hx => ⟨(S.prot x hx).1, ?_⟩, by rw [List.length_set]; exact S.len, fun k s o h3 h4 => ?_, fun k l s t u v x h3 h4 h5 h6 h7 h8 => ?_⟩
  · by_cases z : x = p
    · rw [z, upd_same]; simp
    · rw [upd_ne z]; exact (S.prot x hx).2
  · rw [List.getElem?_set] at h3
    split at h3
    · split at h3
      · cases h3
        rename_i q _
        subst q
        rw [ho] at h4
        cases h4
        exact ⟨p, ys, rfl, f0, upd_same, x⟩
      · cases h3
    · rename_i nik
      have x := S.sl k s o h3 h4
      refine x.move (Evl.Ex.refl _) fun a' ha => ⟨(x.owned ha).1, ?_⟩
      have z : a' ≠ p := fun z => by
        subst z
        exact nik (S.apart i k _ _ _ _ a' h h3 ho h4 rfl ha)
      rw [upd_ne z]
  · have g : ∀ (k : Nat) (s : Sl) (u : Option V), (ρ.set i (.own b es))[k]? = some s → s.Owns u x → ∃ s', ρ[k]? = some s' ∧ s'.Owns u x := fun k s u q1 q2 => by
      rw [List.getElem?_set] at q1
      split at q1
      · split at q1
        · cases q1
          rename_i q _
          subst q
          exact ⟨_, h, q2⟩
        · cases q1
      · exact ⟨s, q1, q2⟩
    obtain ⟨s', e1, e2⟩ := g k s u h3 h7
    obtain ⟨t', e3, e4⟩ := g l t v h4 h8
    exact S.apart k l s' t' u v x e1 e3 h5 h6 e2 e4
end
/-! ### targets -/
def wipeR (ρ : Rho) : List Nat → Rho
  | [] => ρ
  | v :: vs => (wipeR ρ vs).set v .no
theorem Sim.wipe {K : PySem.W.Frag} {c : Cq K} {O : Addr → Prop} {ρ : Rho} {σ : St} {F H : Hp} (S : Sim c O ρ σ F H) : ∀ vs, Sim c O (wipeR ρ vs) (wipe σ vs) F H
  | [] => S
  | v :: vs => by
    unfold wipeR L2.wipe
    exact (Sim.wipe S vs).setS (s := .no) trivial fun a (h : False) => h.elim
theorem wipe_get {σ : St} : ∀ (vs : List Nat) (i : Nat), (wipe σ vs)[i]? = if i ∈ vs then (if i < σ.length then some none else none) else σ[i]?
  | [], i => by simp [L2.wipe]
  | v :: vs, i => by
    unfold L2.wipe
    rw [List.getElem?_set]
    by_cases e : v = i
    · subst e
      rw [if_pos rfl, L2.wipe_length, if_pos List.mem_cons_self]
    · rw [if_neg e, wipe_get vs i]
      have e2 : ¬ i = v := fun z => e z.symm
      simp [e2]
theorem wipe_eq {σ σ2 : St} {vs js : List Nat} (hl : σ2.length = (wipe σ vs).length) (ha : ∀ i, i ∉ js → σ2[i]? = (wipe σ vs)[i]?) (hj : ∀ j ∈ js, j ∈ vs) : wipe σ2 vs = wipe σ vs := by
  refine List.ext_getElem? fun i => ?_
  rw [wipe_get, wipe_get]
  have hl2 : σ2.length = σ.length := by rw [hl, L2.wipe_length]
  by_cases h : i ∈ vs
  · rw [if_pos h, if_pos h, hl2]
  · rw [if_neg h, if_neg h, ha i fun z => h (hj i z), wipe_get, if_neg h]
def TgOk {K : PySem.W.Frag} (c : Cq K) (b : Bool) (g : TG) (js : List Nat) (ρ : Rho) (d : PyData) (ρ' : Rho) : Prop := ∀ (O : Addr → Prop) (σ : St) (F H : Hp) (v : V), Sim c O ρ σ F H → Dd (c.pw b) F v d → ∀ Q : St → Hp → Prop,
  (∀ σ' : St, σ'.length = σ.length → (∀ i, i ∉ js → σ'[i]? = σ[i]?) → Sim c O ρ' σ' F H → Q σ' H) → g v σ H Q
def TgsOk {K : PySem.W.Frag} (c : Cq K) (b : Bool) (g : TGs) (js : List Nat) (ρ : Rho) (ds : List PyData) (ρ' : Rho) : Prop := ∀ (O : Addr → Prop) (σ : St) (F H : Hp) (vs : List V), Sim c O ρ σ F H → DdAll (c.pw b) F vs ds → ∀ Q : St → Hp → Prop,
  (∀ σ' : St, σ'.length = σ.length → (∀ i, i ∉ js → σ'[i]? = σ[i]?) → Sim c O ρ' σ' F H → Q σ' H) → g vs σ H Q
section
variable {K : PySem.W.Frag} {c : Cq K} {b b' : Bool} {ρ ρ1 ρ2 : Rho} {d : PyData} {ds : List PyData} {j n : Nat} {js ks : List Nat} {g : TG} {gs : TGs}
theorem tg_name : TgOk c b (gName j) [j] ρ d (ρ.set j (.val b d)) := fun O σ F H v S x Q k =>
  k _ (by rw [List.length_set]) (fun i hi => List.getElem?_set_ne (fun e => hi (by simp [e]))) (S.setVal j x)
theorem tgs_nil : TgsOk c b gNil [] ρ [] ρ := fun O σ F H vs S x Q k => by
  cases x
  exact ⟨rfl, k σ rfl (fun _ _ => rfl) S⟩
theorem tgs_cons (h : TgOk c b g js ρ d ρ1) (hs : TgsOk c b gs ks ρ1 ds ρ2) : TgsOk c b (gCons g gs) (js ++ ks) ρ (d :: ds) ρ2 := fun O σ F H vs S x Q k => by
  cases x with
  | cons p q =>
    refine ⟨_, _, rfl, h O σ F H _ S p _ fun σ1 l1 a1 S1 => hs O σ1 F H _ S1 q _ fun σ2 l2 a2 S2 => k σ2 (l2.trans l1) (fun i hi => ?_) S2⟩
    rw [a2 i fun z => hi (List.mem_append_right _ z), a1 i fun z => hi (List.mem_append_left _ z)]
theorem tg_unl (h : TgsOk c b gs js ρ ds ρ1) (hn : ds.length = n) : TgOk c b (gUnl K n gs) js ρ (.list ds) ρ1 := fun O σ F H v S x Q k => by
  cases x with
  | lst r q => exact ⟨_, _, rfl, dd_sq Cq.kl S.ff r, by rw [q.length]; exact hn, h O σ F H _ S q Q k⟩
theorem tg_tup (h : TgsOk c b gs js ρ ds ρ1) (hn : ds.length = n) : TgOk c b (gTup K n gs) js ρ (.tuple ds) ρ1 := fun O σ F H v S x Q k => by
  cases x with
  | tup p r q => exact ⟨_, _, rfl, .inl (rd_ex S.ff r), by rw [q.length]; exact hn, h O σ F H _ S q Q k⟩
end
/-! ### comprehensions -/
section
variable {K : PySem.W.Frag} {c : Cq K} {b b0 : Bool} {ρ : Rho} {g : TG} {tt : TT} {te tl : TE} {ta : TA} {vs js : List Nat} {i j : Int}
theorem eb_yes : EvB c tYes ρ true := fun O σ F H S Q k => k F H (Evl.Ex.refl _) (Evl.Ex.refl _) S
/-- the addresses that an evaluation has to leave alone -/
def ownA (ρ : Rho) (σ : St) : Addr → Prop := fun a => ∃ (i : Nat) (s : Sl) (o : Option V), ρ[i]? = some s ∧ σ[i]? = some o ∧ s.Owns o a
theorem Sim.ownA_prot {O : Addr → Prop} {σ : St} {F H : Hp} (S : Sim c O ρ σ F H) {a : Addr} (h : ownA ρ σ a) : F a = none ∧ H a ≠ none := by
  obtain ⟨i, s, o, h1, h2, h3⟩ := h
  exact (S.sl i s o h1 h2).owned h3
/-- a state seen again behind a growth of the heaps that left its lists alone, and a list at D beside -/
theorem Sim.again {O : Addr → Prop} {σ : St} {F H F' H' : Hp} {D : Addr} {ys : List V} (S : Sim c O ρ σ F H) (ef : Ex F F') (eh : Ex H H') (ff : Ex F' H') (hO : ∀ a, O a → F' a = none) (hw : ∀ a, ownA ρ σ a → F' a = none) (hD : ¬ ownA ρ σ D) (fD : F' D = none) :
    Sim c O ρ σ F' (upd H' D (.lst ys)) := by
  refine ⟨S.base.trans ef, ff.mut fD, fun a h => ⟨hO a h, ?_⟩, S.len, fun i s o h1 h2 => ?_, S.apart⟩
  · by_cases z : a = D
    · rw [z, upd_same]; simp
    · rw [upd_ne z]
      exact fun q => (S.prot a h).2 (Evl.fresh_back eh q)
  · have x := S.sl i s o h1 h2
    refine x.move ef fun a ha => ?_
    have oa : ownA ρ σ a := ⟨i, s, o, h1, h2, ha⟩
    have z : a ≠ D := fun z => hD (z ▸ oa)
    refine ⟨hw a oa, ?_⟩
    rw [upd_ne z]
    cases e : H a with
    | none => exact absurd e (x.owned ha).2
    | some u => exact eh a u e
theorem Sim.again0 {O : Addr → Prop} {σ : St} {F H F' H' : Hp} (S : Sim c O ρ σ F H) (ef : Ex F F') (eh : Ex H H') (ff : Ex F' H') (hO : ∀ a, O a → F' a = none) (hw : ∀ a, ownA ρ σ a → F' a = none) : Sim c O ρ σ F' H' := by
  refine ⟨S.base.trans ef, ff, fun a h => ⟨hO a h, fun q => (S.prot a h).2 (Evl.fresh_back eh q)⟩, S.len, fun i s o h1 h2 => ?_, S.apart⟩
  have x := S.sl i s o h1 h2
  refine x.move ef fun a ha => ?_
  refine ⟨hw a ⟨i, s, o, h1, h2, ha⟩, ?_⟩
  cases e : H a with
  | none => exact absurd e (x.owned ha).2
  | some u => exact eh a u e
/-- what stands between two turns of a comprehension -/
structure LcInv {K : PySem.W.Frag} (c : Cq K) (b : Bool) (O : Addr → Prop) (ρ : Rho) (σ : St) (F1 H1 : Hp) (D : Addr) (acc : List PyData) (F H : Hp) (ys : List V) : Prop where
  ef : Ex F1 F
  eh : Ex H1 H
  at_ : H D = some (.lst ys)
  fD : F D = none
  sim : Sim c O ρ σ F H
  dd : DdAll (c.pw b) F ys acc
theorem lc_turn {O : Addr → Prop} {σ : St} {F1 H1 F' H' : Hp} {D : Addr} {acc : List PyData} {ys : List V} {ρ' : Rho} {p : Bool} {h : PyData} {x : V} {d : PyData} {Pn : Hp → Prop} (I : LcInv c b O ρ σ F1 H1 D acc F' H' ys) (hD : H1 D = none) (nD : ¬ ownA ρ σ D) (dx : Dd (c.pw b0) F' x d)
    (ht : TgOk c b0 g js (wipeR ρ vs) d ρ' ∧ EvB c tt ρ' p ∧ (p = true → Ev c b te ρ' h)) (hjs : ∀ j ∈ js, j ∈ vs) (hz : acc.length < 50000)
    (hP : ∀ F2 H2 ys2, LcInv c b O ρ σ F1 H1 D (if p then acc ++ [h] else acc) F2 H2 ys2 → Pn H2) :
    g x (wipe σ vs) H' fun σ2 H2 => wipe σ2 vs = wipe σ vs ∧ tt σ2 H2 fun bb H3 => if bb = true then te σ2 H3 fun y H4 => ∃ acc, H4 D = some (.lst acc) ∧ acc.length < sizeLine ∧ Pn (upd H4 D (.lst (acc ++ [y]))) else Pn H3 := by
  obtain ⟨tg, eb, ee⟩ := ht
  have S0 : Sim c (fun a => O a ∨ a = D ∨ ownA ρ σ a) ρ σ F' H' := I.sim.sub fun a h => by
    rcases h with h | h | h
    · exact I.sim.prot a h
    · subst h; exact ⟨I.fD, by rw [I.at_]; simp⟩
    · exact I.sim.ownA_prot h
  refine tg _ _ F' H' x (S0.wipe vs) dx _ fun σ2 l2 a2 S2 => ⟨wipe_eq l2 a2 hjs, eb _ σ2 F' H' S2 _ fun F3 H3 e3 g3 S3 => ?_⟩
  cases p with
  | false =>
    refine iteF (hP F3 H3 ys ⟨I.ef.trans e3, I.eh.trans g3, g3 _ _ I.at_, (S3.prot D (.inr (.inl rfl))).1, ?_, I.dd.ex e3⟩)
    exact I.sim.again0 e3 g3 S3.ff (fun a h => (S3.prot a (.inl h)).1) fun a h => (S3.prot a (.inr (.inr h))).1
  | true =>
    refine iteT (ee rfl _ σ2 F3 H3 S3 _ fun y F4 H4 e4 g4 S4 dy => ?_)
    have fD4 : F4 D = none := (S4.prot D (.inr (.inl rfl))).1
    refine ⟨ys, g4 _ _ (g3 _ _ I.at_), Nat.lt_of_lt_of_le (by rw [I.dd.length]; exact hz) (by decide), hP F4 _ (ys ++ [y]) ⟨I.ef.trans (e3.trans e4), (I.eh.trans (g3.trans g4)).mut hD, upd_same, fD4, ?_, ?_⟩⟩
    · exact I.sim.again (e3.trans e4) (g3.trans g4) S4.ff (fun a h => (S4.prot a (.inl h)).1) (fun a h => (S4.prot a (.inr (.inr h))).1) nD fD4
    · exact (I.dd.ex (e3.trans e4)).append (.one dy)
theorem take_succ_filter {α : Type} (xs : List α) (p : α → Bool) {β : Type} (h : α → β) {i : Nat} {u : α} (e : xs[i]? = some u) : ((xs.take (i + 1)).filter p).map h = if p u then ((xs.take i).filter p).map h ++ [h u] else ((xs.take i).filter p).map h := by
  rw [List.take_add_one, e]
  simp only [Option.toList, List.filter_append, List.map_append]
  cases q : p u <;> simp [q]
theorem el_lc {α : Type} {xs : List α} {enc : α → PyData} (p : α → Bool) (h : α → PyData) (hl : EvE c b0 tl ρ (xs.map enc)) (hz : xs.length ≤ 40000) (hjs : ∀ j ∈ js, j ∈ vs)
    (ht : ∀ x ∈ xs, ∃ ρ', TgOk c b0 g js (wipeR ρ vs) (enc x) ρ' ∧ EvB c tt ρ' (p x) ∧ (p x = true → Ev c b te ρ' (h x))) :
    EvL c b (tLc (iList K tl) g tt te vs) ρ ((xs.filter p).map h) := fun O σ F H S Q k => by
  refine hl O σ F H S _ fun a xv F1 H1 e1 h1 S1 r1 d1 => ⟨a, rfl, ⟨_, r1⟩, fun D hD => ?_⟩
  have nD : ¬ ownA ρ σ D := fun z => (S1.ownA_prot z).2 hD
  have lenx : xv.length = xs.length := by rw [d1.length, List.length_map]
  refine lc_list (K := K) (a := a) (xs := xv) (fun i H' => ∃ F' ys, LcInv c b O ρ σ F1 H1 D (((xs.take i).filter p).map h) F' H' ys) ?_ ?_ ?_ ?_
  · exact ⟨F1, [], Evl.Ex.refl _, Evl.Ex.new hD, upd_same, S1.fresh hD, S1.lay hD, by simp; exact .nil⟩
  · rintro i H' hi ⟨F', ys, I⟩
    exact sq_ex I.eh r1
  · rintro i x H' hx ⟨F', ys, I⟩
    obtain ⟨d, hd, dd⟩ := d1.getV hx
    rw [List.getElem?_map] at hd
    cases hu : xs[i]? with
    | none => rw [hu] at hd; cases hd
    | some u =>
      rw [hu] at hd
      cases hd
      obtain ⟨ρ', ht'⟩ := ht u (List.mem_of_getElem? hu)
      refine lc_turn I hD nD (dd.ex I.ef) ht' hjs ?_ fun F2 H2 ys2 I2 => ⟨F2, ys2, ?_⟩
      · rw [List.length_map]
        have q1 := List.length_filter_le p (xs.take i)
        have q2 : (xs.take i).length ≤ xs.length := by rw [List.length_take]; omega
        omega
      · rw [take_succ_filter xs p h hu]
        exact I2
  · rintro H' ⟨F', ys, I⟩
    rw [lenx, List.take_length] at I
    exact k D ys F' H' (e1.trans I.ef) (h1.trans I.eh) I.sim (Evl.fresh_back h1 hD) I.fD I.at_ (fun i s o q1 q2 q3 => nD ⟨i, s, o, q1, q2, q3⟩) I.dd
/-- over range(n) -/
theorem el_lcR {n : Nat} (p : Nat → Bool) (h : Nat → PyData) (hl : EvA c ta ρ [.int (n : Int)]) (hz : n ≤ 40000) (hjs : ∀ j ∈ js, j ∈ vs)
    (ht : ∀ x, x < n → ∃ ρ', TgOk c true g js (wipeR ρ vs) (.int (x : Int)) ρ' ∧ EvB c tt ρ' (p x) ∧ (p x = true → Ev c b te ρ' (h x))) :
    EvL c b (tLc (iRng1 ta) g tt te vs) ρ (((List.range n).filter p).map h) := fun O σ F H S Q k => by
  refine hl O σ F H S _ fun ws F1 H1 e1 h1 S1 d1 => ?_
  cases d1 with
  | cons q1 q2 =>
    cases q1; cases q2
    refine ⟨(n : Int), rfl, by omega, by omega, fun D hD => ?_⟩
    have nD : ¬ ownA ρ σ D := fun z => (S1.ownA_prot z).2 hD
    have en : ((n : Int)).toNat = n := by omega
    rw [en]
    refine lc_range (lo := 0) (n := n) (fun i H' => ∃ F' ys, LcInv c b O ρ σ F1 H1 D ((((List.range n).take i).filter p).map h) F' H' ys) ?_ ?_ ?_
    · exact ⟨F1, [], Evl.Ex.refl _, Evl.Ex.new hD, upd_same, S1.fresh hD, S1.lay hD, by simp; exact .nil⟩
    · rintro i H' hi ⟨F', ys, I⟩
      obtain ⟨ρ', ht'⟩ := ht i hi
      have hu : (List.range n)[i]? = some i := by simp [hi]
      refine lc_turn (d := .int (i : Int)) I hD nD (by rw [Int.zero_add]; exact .int _) ht' hjs ?_ fun F2 H2 ys2 I2 => ⟨F2, ys2, ?_⟩
      · rw [List.length_map]
        have q1 := List.length_filter_le p ((List.range n).take i)
        have q2 : ((List.range n).take i).length ≤ n := by rw [List.length_take, List.length_range]; omega
        omega
      · rw [take_succ_filter (List.range n) p h hu]
        exact I2
    · rintro H' ⟨F', ys, I⟩
      rw [List.take_of_length_le (by simp)] at I
      exact k D ys F' H' (e1.trans I.ef) (h1.trans I.eh) I.sim (Evl.fresh_back h1 hD) I.fD I.at_ (fun i s o q1 q2 q3 => nD ⟨i, s, o, q1, q2, q3⟩) I.dd
/-- over range(lo, hi) -/
theorem el_lcR2 {lo : Int} {n : Nat} {hi : Int} (p : Nat → Bool) (h : Nat → PyData) (hl : EvA c ta ρ [.int lo, .int hi]) (hb : -20000 ≤ lo ∧ lo ≤ 20000 ∧ -20000 ≤ hi ∧ hi ≤ 20000) (en : (hi - lo).toNat = n) (hjs : ∀ j ∈ js, j ∈ vs)
    (ht : ∀ x, x < n → ∃ ρ', TgOk c true g js (wipeR ρ vs) (.int (lo + (x : Int))) ρ' ∧ EvB c tt ρ' (p x) ∧ (p x = true → Ev c b te ρ' (h x))) :
    EvL c b (tLc (iRng2 ta) g tt te vs) ρ (((List.range n).filter p).map h) := fun O σ F H S Q k => by
  refine hl O σ F H S _ fun ws F1 H1 e1 h1 S1 d1 => ?_
  cases d1 with
  | cons q1 q2 =>
    cases q1
    cases q2 with
    | cons q3 q4 =>
      cases q3; cases q4
      refine ⟨lo, hi, rfl, by omega, fun D hD => ?_⟩
      have nD : ¬ ownA ρ σ D := fun z => (S1.ownA_prot z).2 hD
      rw [en]
      refine lc_range (lo := lo) (n := n) (fun i H' => ∃ F' ys, LcInv c b O ρ σ F1 H1 D ((((List.range n).take i).filter p).map h) F' H' ys) ?_ ?_ ?_
      · exact ⟨F1, [], Evl.Ex.refl _, Evl.Ex.new hD, upd_same, S1.fresh hD, S1.lay hD, by simp; exact .nil⟩
      · rintro i H' hi' ⟨F', ys, I⟩
        obtain ⟨ρ', ht'⟩ := ht i hi'
        have hu : (List.range n)[i]? = some i := by simp [hi']
        refine lc_turn (d := .int (lo + (i : Int))) I hD nD (.int _) ht' hjs ?_ fun F2 H2 ys2 I2 => ⟨F2, ys2, ?_⟩
        · rw [List.length_map]
          have q1 := List.length_filter_le p ((List.range n).take i)
          have q2 : ((List.range n).take i).length ≤ n := by rw [List.length_take, List.length_range]; omega
          omega
        · rw [take_succ_filter (List.range n) p h hu]
          exact I2
      · rintro H' ⟨F', ys, I⟩
        rw [List.take_of_length_le (by simp)] at I
        exact k D ys F' H' (e1.trans I.ef) (h1.trans I.eh) I.sim (Evl.fresh_back h1 hD) I.fD I.at_ (fun i s o q1 q2 q3 => nD ⟨i, s, o, q1, q2, q3⟩) I.dd
end
end DL

end
section
set_option maxRecDepth 100000
set_option maxHeartbeats 2000000
namespace DL
open PySem L2
/-! ### statements -/
def Go {K : PySem.W.Frag} (c : Cq K) (B : Hp) (t : TS) (D : Ends) (ρ : Rho) : Prop := ∀ (O : Addr → Prop) (σ : St) (F H : Hp), Ex B F → Sim c O ρ σ F H → t D σ H
def Nx {K : PySem.W.Frag} (c : Cq K) (B : Hp) (D : Ends) (ρ : Rho) : Prop := ∀ (O : Addr → Prop) (σ : St) (F H : Hp), Ex B F → Sim c O ρ σ F H → D.nx σ H
/-- a state of one of these kinds -/
def Pst {K : PySem.W.Frag} (c : Cq K) (B : Hp) (I : Rho → Prop) : St → Hp → Prop := fun σ H => ∃ (O : Addr → Prop) (F : Hp) (ρ : Rho), Ex B F ∧ Sim c O ρ σ F H ∧ I ρ
/-- what a def may hand back -/
def Rt {K : PySem.W.Frag} (c : Cq K) (Q : VK) (d : PyData) : Prop := ∀ v H', Ex c.H0 H' → Dd (c.pw true) H' v d → Q v H'
/-- the expression leaves: nothing behind it is reached -/
def EvZ {K : PySem.W.Frag} (c : Cq K) (te : TE) (ρ : Rho) : Prop := ∀ (O : Addr → Prop) (σ : St) (F H : Hp), Sim c O ρ σ F H → ∀ Q : VK, te σ H Q
section
variable {K : PySem.W.Frag} {c : Cq K} {B : Hp} {b b' : Bool} {ρ ρ' : Rho} {D : Ends} {t u w tz : TS} {te ta to ti tl : TE} {tt : TT} {d : PyData} {ds es : List PyData} {i j n : Nat} {g : TG} {js : List Nat}
theorem nx_go (h : Go c B u D ρ) : Nx c B { D with nx := u D } ρ := h
theorem go_nx (h : Nx c B D ρ) : Go c B tNext D ρ := h
theorem go_weak (l : Le ρ' ρ) (h : Go c B t D ρ') : Go c B t D ρ := fun O σ F H e S => h O σ F H e (S.le l)
theorem nx_weak (l : Le ρ' ρ) (h : Nx c B D ρ') : Nx c B D ρ := fun O σ F H e S => h O σ F H e (S.le l)
theorem go_freeze (h : ρ[i]? = some (.own b ds)) (k : Go c B t D (ρ.set i (.val b (.list ds)))) : Go c B t D ρ := fun O σ F H e S => by
  obtain ⟨F', ef, S'⟩ := S.freeze h
  exact k _ σ F' H (e.trans ef) S'
theorem nx_freeze (h : ρ[i]? = some (.own b ds)) (k : Nx c B D (ρ.set i (.val b (.list ds)))) : Nx c B D ρ := fun O σ F H e S => by
  obtain ⟨F', ef, S'⟩ := S.freeze h
  exact k _ σ F' H (e.trans ef) S'
theorem nx_pst {I : Rho → Prop} {rt : VK} {bk ct : St → Hp → Prop} (h : I ρ) : Nx c B ⟨Pst c B I, rt, bk, ct⟩ ρ := fun O σ F H e S => ⟨O, F, ρ, e, S, h⟩
theorem nx_pst' {I : Rho → Prop} (e : D.nx = Pst c B I) (h : I ρ) : Nx c B D ρ := fun O σ F H e1 S => by rw [e]; exact ⟨O, F, ρ, e1, S, h⟩
/-! assignments -/
theorem go_tg (h : Ev c b te ρ d) (tg : TgOk c b g js ρ d ρ') (k : Nx c B D ρ') : Go c B (tAsg te g) D ρ := fun O σ F H e S =>
  h O σ F H S _ fun v F1 H1 e1 h1 S1 d1 => tg O σ F1 H1 v S1 d1 _ fun σ' _ _ S2 => k O σ' F1 H1 (e.trans e1) S2
theorem q_tg (h : Ev c b te ρ d) (tg : TgOk c b g js ρ d ρ') (k : Go c B tz D ρ') : Go c B (tSeq (tAsg te g) tz) D ρ := go_tg (D := { D with nx := tz D }) h tg k
theorem go_val (h : Ev c b te ρ d) (k : Nx c B D (ρ.set i (.val b d))) : Go c B (tAsg te (gName i)) D ρ := go_tg h tg_name k
theorem q_val (h : Ev c b te ρ d) (k : Go c B tz D (ρ.set i (.val b d))) : Go c B (tSeq (tAsg te (gName i)) tz) D ρ := go_val (D := { D with nx := tz D }) h k
theorem go_own (h : EvL c b te ρ ds) (k : Nx c B D (ρ.set i (.own b ds))) : Go c B (tAsg te (gName i)) D ρ := fun O σ F H e S =>
  h O σ F H S _ fun p xs F1 H1 e1 h1 S1 hp fp at_ no d1 => k O _ F1 H1 (e.trans e1) (S1.setOwn i fp at_ no d1)
theorem q_own (h : EvL c b te ρ ds) (k : Go c B tz D (ρ.set i (.own b ds))) : Go c B (tSeq (tAsg te (gName i)) tz) D ρ := go_own (D := { D with nx := tz D }) h k
theorem go_drop (h : Ev c b te ρ d) (k : Nx c B D ρ) : Go c B (tDrop te) D ρ := fun O σ F H e S => h O σ F H S _ fun v F1 H1 e1 h1 S1 d1 => k O σ F1 H1 (e.trans e1) S1
theorem q_drop (h : Ev c b te ρ d) (k : Go c B tz D ρ) : Go c B (tSeq (tDrop te) tz) D ρ := go_drop (D := { D with nx := tz D }) h k
theorem go_ret (h : Ev c true te ρ d) (k : Rt c D.rt d) : Go c B (tRet te) D ρ := fun O σ F H e S => h O σ F H S _ fun v F1 H1 e1 h1 S1 d1 => k v H1 S1.bb (d1.ex S1.ff)
theorem q_ret (h : Ev c true te ρ d) (k : Rt c D.rt d) : Go c B (tSeq (tRet te) tz) D ρ := go_ret (D := { D with nx := tz D }) h k
theorem go_retN (k : Rt c D.rt .none) : Go c B tRetN D ρ := fun O σ F H e S => k _ H S.bb .non
/-- the whole of a list def: nothing is handed back at its end -/
theorem go_retO (h : ρ[i]? = some (.own true ds)) (k : Rt c D.rt (.list ds)) : Go c B (tRet (tVar i)) D ρ := go_freeze h (go_ret (ev_var (List.getElem?_set_self (List.getElem?_eq_some_iff.mp h).1)) k)
theorem go_aug {f : Int → Int → Int} {x y : Int} (hx : ρ[i]? = some (.val b (.int x))) (h : EvR c te ρ (.int y)) (k : Nx c B D (ρ.set i (nI (f x y)))) : Go c B (tAug i te (ipI f)) D ρ := fun O σ F H e S => by
  obtain ⟨o, ho, v, ev, dd⟩ := S.get hx
  cases dd
  refine ⟨.int x, by rw [ho, ev], h O σ F H S _ fun w F1 H1 e1 h1 S1 d1 => ?_⟩
  cases d1
  exact ⟨x, y, rfl, rfl, k O _ F1 H1 (e.trans e1) (S1.setVal (b := false) (d := .int (f x y)) i (.int _))⟩
theorem q_aug {f : Int → Int → Int} {x y : Int} (hx : ρ[i]? = some (.val b (.int x))) (h : EvR c te ρ (.int y)) (k : Go c B tz D (ρ.set i (nI (f x y)))) : Go c B (tSeq (tAug i te (ipI f)) tz) D ρ := go_aug (D := { D with nx := tz D }) hx h k
/-! lists changed -/
theorem go_app (h : ρ[i]? = some (.own b ds)) (hd : Ev c b te ρ d) (hz : ds.length < 100000) (k : Nx c B D (ρ.set i (.own b (ds ++ [d])))) : Go c B (tDrop (tBM K "list" rAppend (tVar i) (tCons te tNil))) D ρ := fun O σ F H e S => by
  obtain ⟨o, ho, a, xs, eo, f0, h1, dd⟩ := S.get h
  subst eo
  refine ⟨_, ho, .inl ⟨rfl, _, .inl (.inl h1)⟩, hd O σ F H S _ fun v F1 H1 e1 g1 S1 d1 => ?_⟩
  have h2 := g1 _ _ h1
  exact ⟨a, xs, v, rfl, rfl, h2, Evl.sz_lt (by rw [dd.length]; exact hz), k O σ F1 _ (e.trans e1) (S1.write h ho h2 ((dd.ex e1).append (.one d1)))⟩
theorem q_app (h : ρ[i]? = some (.own b ds)) (hd : Ev c b te ρ d) (hz : ds.length < 100000) (k : Go c B tz D (ρ.set i (.own b (ds ++ [d])))) : Go c B (tSeq (tDrop (tBM K "list" rAppend (tVar i) (tCons te tNil))) tz) D ρ := go_app (D := { D with nx := tz D }) h hd hz k
/-- xs.insert(i, y) -/
abbrev rInsert : V → List V → Hp → VK → Prop := fun x vs H Q => ∃ (l : Addr) (xs : List V) (i : Int) (y : V), x = .ref l ∧ vs = [.int i, y] ∧ H l = some (.lst xs) ∧ xs.length < sizeLine ∧ 0 ≤ i ∧ i < 2 ^ 63 ∧ Q .non (upd H l (.lst (xs.take i.toNat ++ [y] ++ xs.drop i.toNat)))
theorem go_insert {k0 : Int} (h : ρ[i]? = some (.own b ds)) (hi : EvR c ti ρ (.int k0)) (hd : Ev c b te ρ d) (hz : ds.length < 100000) (h0 : 0 ≤ k0 ∧ k0 < 2 ^ 63) (k : Nx c B D (ρ.set i (.own b (ds.take k0.toNat ++ [d] ++ ds.drop k0.toNat)))) :
    Go c B (tDrop (tBM K "list" rInsert (tVar i) (tCons ti (tCons te tNil)))) D ρ := fun O σ F H e S => by
  obtain ⟨o, ho, a, xs, eo, f0, h1, dd⟩ := S.get h
  subst eo
  refine ⟨_, ho, .inl ⟨rfl, _, .inl (.inl h1)⟩, hi O σ F H S _ fun v F1 H1 e1 g1 S1 d1 => hd O σ F1 H1 S1 _ fun v2 F2 H2 e2 g2 S2 d2 => ?_⟩
  cases d1
  have h2 := g2 _ _ (g1 _ _ h1)
  have dd2 := dd.ex (e1.trans e2)
  exact ⟨a, xs, k0, v2, rfl, rfl, h2, Evl.sz_lt (by rw [dd.length]; exact hz), h0.1, h0.2, k O σ F2 _ (e.trans (e1.trans e2)) (S2.write h ho h2 (((dd2.take _).append (.one d2)).append (dd2.drop _)))⟩
theorem q_insert {k0 : Int} (h : ρ[i]? = some (.own b ds)) (hi : EvR c ti ρ (.int k0)) (hd : Ev c b te ρ d) (hz : ds.length < 100000) (h0 : 0 ≤ k0 ∧ k0 < 2 ^ 63) (k : Go c B tz D (ρ.set i (.own b (ds.take k0.toNat ++ [d] ++ ds.drop k0.toNat)))) :
    Go c B (tSeq (tDrop (tBM K "list" rInsert (tVar i) (tCons ti (tCons te tNil)))) tz) D ρ := go_insert (D := { D with nx := tz D }) h hi hd hz h0 k
/-- xs.remove(k), ints -/
theorem map_erase {α β : Type} (f : α → β) : ∀ (xs : List α) (j : Nat), (xs.eraseIdx j).map f = (xs.map f).eraseIdx j
  | [], j => by simp
  | a :: r, 0 => rfl
  | a :: r, j + 1 => by
    show f a :: (r.eraseIdx j).map f = f a :: (r.map f).eraseIdx j
    rw [map_erase f r j]
theorem go_remove {ns : List Int} {k0 : Int} {j0 : Nat} (h : ρ[i]? = some (.own b (ns.map PyData.int))) (hi : EvR c ti ρ (.int k0)) (hj : ns[j0]? = some k0) (hno : ∀ m : Nat, m < j0 → ns[m]? ≠ some k0) (k : Nx c B D (ρ.set i (.own b ((ns.eraseIdx j0).map PyData.int)))) :
    Go c B (tDrop (tBM K "list" rRemI (tVar i) (tCons ti tNil))) D ρ := fun O σ F H e S => by
  obtain ⟨o, ho, a, xs, eo, f0, h1, dd⟩ := S.get h
  subst eo
  refine ⟨_, ho, .inl ⟨rfl, _, .inl (.inl h1)⟩, hi O σ F H S _ fun v F1 H1 e1 g1 S1 d1 => ?_⟩
  cases d1
  have h2 := g1 _ _ h1
  have ee := dd.ints
  subst ee
  exact ⟨a, ns, k0, j0, rfl, rfl, h2, hj, hno, k O σ F1 _ (e.trans e1) (S1.write h ho h2 (DdAll.ofInts _))⟩
theorem q_remove {ns : List Int} {k0 : Int} {j0 : Nat} (h : ρ[i]? = some (.own b (ns.map PyData.int))) (hi : EvR c ti ρ (.int k0)) (hj : ns[j0]? = some k0) (hno : ∀ m : Nat, m < j0 → ns[m]? ≠ some k0) (k : Go c B tz D (ρ.set i (.own b ((ns.eraseIdx j0).map PyData.int)))) :
    Go c B (tSeq (tDrop (tBM K "list" rRemI (tVar i) (tCons ti tNil))) tz) D ρ := go_remove (D := { D with nx := tz D }) h hi hj hno k
/-- xs[i] = e -/
theorem go_set {k0 : Int} {j0 : Nat} (h : ρ[i]? = some (.own b ds)) (hd : Ev c b te ρ d) (hi : EvR c ti ρ (.int k0)) (hj : ixN ds.length k0 = some j0) (k : Nx c B D (ρ.set i (.own b (ds.set j0 d)))) :
    Go c B (tAsg te (gSub (tVar i) ti rSetL)) D ρ := fun O σ F H e S => by
  obtain ⟨o, ho, a, xs, eo, f0, h1, dd⟩ := S.get h
  subst eo
  refine hd O σ F H S _ fun v F1 H1 e1 g1 S1 d1 => ⟨_, ho, hi O σ F1 H1 S1 _ fun v2 F2 H2 e2 g2 S2 d2 => ?_⟩
  cases d2
  have h2 := g2 _ _ (g1 _ _ h1)
  exact ⟨a, xs, k0, j0, rfl, rfl, h2, by rw [dd.length]; exact hj, k O σ F2 _ (e.trans (e1.trans e2)) (S2.write h ho h2 (DdAll.set (d1.ex e2) j0 (dd.ex (e1.trans e2))))⟩
theorem q_set {k0 : Int} {j0 : Nat} (h : ρ[i]? = some (.own b ds)) (hd : Ev c b te ρ d) (hi : EvR c ti ρ (.int k0)) (hj : ixN ds.length k0 = some j0) (k : Go c B tz D (ρ.set i (.own b (ds.set j0 d)))) :
    Go c B (tSeq (tAsg te (gSub (tVar i) ti rSetL)) tz) D ρ := go_set (D := { D with nx := tz D }) h hd hi hj k
/-- xs[i] += e, ints -/
theorem go_setAug {f : Int → Int → Int} {k0 x y : Int} {j0 : Nat} (h : ρ[i]? = some (.own b ds)) (hi : EvR c ti ρ (.int k0)) (hj : ixN ds.length k0 = some j0) (hx : ds[j0]? = some (.int x)) (hd : EvR c te ρ (.int y)) (k : Nx c B D (ρ.set i (.own b (ds.set j0 (.int (f x y)))))) :
    Go c B (tAugS (tVar i) ti te (rIxL K) (ipI f) rSetL) D ρ := fun O σ F H e S => by
  obtain ⟨o, ho, a, xs, eo, f0, h1, dd⟩ := S.get h
  subst eo
  refine ⟨_, ho, hi O σ F H S _ fun v2 F2 H2 e2 g2 S2 d2 => ?_⟩
  cases d2
  have h2 := g2 _ _ h1
  have hj' : ixN xs.length k0 = some j0 := by rw [dd.length]; exact hj
  obtain ⟨vx, q1, q2⟩ := dd.get hx
  cases q2
  refine ⟨a, xs, k0, _, rfl, rfl, .inl (.inl h2), by unfold atI; rw [hj']; exact q1, hd O σ F2 H2 S2 _ fun v3 F3 H3 e3 g3 S3 d3 => ?_⟩
  cases d3
  have h3 := g3 _ _ h2
  exact ⟨x, y, rfl, rfl, a, xs, k0, j0, rfl, rfl, h3, hj', k O σ F3 _ (e.trans (e2.trans e3)) (S3.write h ho h3 (DdAll.set (.int _) j0 (dd.ex (e2.trans e3))))⟩
theorem q_setAug {f : Int → Int → Int} {k0 x y : Int} {j0 : Nat} (h : ρ[i]? = some (.own b ds)) (hi : EvR c ti ρ (.int k0)) (hj : ixN ds.length k0 = some j0) (hx : ds[j0]? = some (.int x)) (hd : EvR c te ρ (.int y)) (k : Go c B tz D (ρ.set i (.own b (ds.set j0 (.int (f x y)))))) :
    Go c B (tSeq (tAugS (tVar i) ti te (rIxL K) (ipI f) rSetL) tz) D ρ := go_setAug (D := { D with nx := tz D }) h hi hj hx hd k
/-! if -/
theorem go_if {x : Bool} (h : EvB c tt ρ x) (h1 : x = true → Go c B t D ρ) (h2 : x = false → Go c B u D ρ) : Go c B (tIfS tt t u) D ρ := fun O σ F H e S => h O σ F H S _ fun F1 H1 e1 g1 S1 => by
  cases x with
  | true => exact iteT (h1 rfl O σ F1 H1 (e.trans e1) S1)
  | false => exact iteF (h2 rfl O σ F1 H1 (e.trans e1) S1)
theorem q_if {x : Bool} (h : EvB c tt ρ x) (h1 : x = true → Go c B t { D with nx := tz D } ρ) (h2 : x = false → Go c B u { D with nx := tz D } ρ) : Go c B (tSeq (tIfS tt t u) tz) D ρ := go_if (D := { D with nx := tz D }) h h1 h2
/-- without else -/
theorem q_when {x : Bool} (h : EvB c tt ρ x) (h1 : x = true → Go c B t { D with nx := tz D } ρ) (h2 : x = false → Go c B tz D ρ) : Go c B (tSeq (tIfS tt t tNext) tz) D ρ := go_if (D := { D with nx := tz D }) h h1 h2
theorem go_when {x : Bool} (h : EvB c tt ρ x) (h1 : x = true → Go c B t D ρ) (h2 : x = false → Nx c B D ρ) : Go c B (tIfS tt t tNext) D ρ := go_if h h1 h2
/-- both ways meet in one of these kinds of state -/
theorem q_cut (I : Rho → Prop) (h : Go c B t { D with nx := Pst c B I } ρ) (k : ∀ ρ', I ρ' → Go c B tz D ρ') : Go c B (Evl.tCut t tz) D ρ := fun O σ F H e S =>
  ⟨Pst c B I, h O σ F H e S, fun σ' H' ⟨O', F', ρ', e', S', i'⟩ => k ρ' i' O' σ' F' H' e' S'⟩
theorem q_cut1 (ρ1 : Rho) (h : Go c B t { D with nx := Pst c B (fun r => Le ρ1 r) } ρ) (k : Go c B tz D ρ1) : Go c B (Evl.tCut t tz) D ρ := q_cut _ h fun ρ' l => go_weak l k
/-! loops -/
theorem go_for {α : Type} {xs : List α} {enc : α → PyData} {tb : TS} (h : Ev c b tl ρ (.list (xs.map enc))) (I : Nat → Rho → Prop) (h0 : I 0 ρ)
    (hs : ∀ (B' : Hp) (i : Nat) (x : α) (ρ1 : Rho), xs[i]? = some x → I i ρ1 → ∃ js ρ2, TgOk c b g js ρ1 (enc x) ρ2 ∧ Go c B' tb { D with nx := Pst c B' (I (i + 1)), ct := Pst c B' (I (i + 1)), bk := D.nx } ρ2)
    (hd : ∀ ρ1, I xs.length ρ1 → Nx c B D ρ1) : Go c B (tFor (iList K tl) g tb) D ρ := fun O σ F H e S => by
  refine h O σ F H S _ fun v F1 H1 e1 h1 S1 d1 => ?_
  cases d1 with
  | lst r dd =>
    rename_i a xv
    refine ⟨a, rfl, ⟨xv, dd_sq Cq.kl S1.ff r⟩, ?_⟩
    have lenx : xv.length = xs.length := by rw [dd.length, List.length_map]
    refine for_list (K := K) (a := a) (xs := xv) (fun i σ' H' => Pst c F1 (I i) σ' H') ⟨O, F1, ρ, Evl.Ex.refl _, S1, h0⟩ ?_ ?_ ?_
    · rintro i σ' H' hi ⟨O', F', ρ1, e', S', _⟩
      exact dd_sq Cq.kl (e'.trans S'.ff) r
    · rintro i x σ' H' hx ⟨O', F', ρ1, e', S', iv⟩
      obtain ⟨d, hd', dx⟩ := dd.getV hx
      rw [List.getElem?_map] at hd'
      cases hu : xs[i]? with
      | none => rw [hu] at hd'; cases hd'
      | some uu =>
        rw [hu] at hd'
        cases hd'
        obtain ⟨js, ρ2, tg, go⟩ := hs F1 i uu ρ1 hu iv
        exact tg O' σ' F' H' x S' (dx.ex e') _ fun σ2 _ _ S2 => go O' σ2 F' H' e' S2
    · rintro σ' H' ⟨O', F', ρ1, e', S', iv⟩
      rw [lenx] at iv
      exact hd ρ1 iv O' σ' F' H' (e.trans (e1.trans e')) S'
theorem q_for {α : Type} {xs : List α} {enc : α → PyData} {tb : TS} (h : Ev c b tl ρ (.list (xs.map enc))) (I : Nat → Rho → Prop) (h0 : I 0 ρ)
    (hs : ∀ (B' : Hp) (i : Nat) (x : α) (ρ1 : Rho), xs[i]? = some x → I i ρ1 → ∃ js ρ2, TgOk c b g js ρ1 (enc x) ρ2 ∧ Go c B' tb { D with nx := Pst c B' (I (i + 1)), ct := Pst c B' (I (i + 1)), bk := tz D } ρ2)
    (hd : ∀ ρ1, I xs.length ρ1 → Go c B tz D ρ1) : Go c B (tSeq (tFor (iList K tl) g tb) tz) D ρ := go_for (D := { D with nx := tz D }) h I h0 hs hd
theorem go_forR {ta : TA} {tb : TS} {n : Nat} (h : EvA c ta ρ [.int (n : Int)]) (hn : n ≤ 100000) (I : Nat → Rho → Prop) (h0 : I 0 ρ)
    (hs : ∀ (i : Nat) (ρ1 : Rho), i < n → I i ρ1 → ∃ js ρ2, TgOk c false g js ρ1 (.int (i : Int)) ρ2 ∧ Go c B tb { D with nx := Pst c B (I (i + 1)), ct := Pst c B (I (i + 1)), bk := D.nx } ρ2)
    (hd : ∀ ρ1, I n ρ1 → Nx c B D ρ1) : Go c B (tFor (iRng1 ta) g tb) D ρ := fun O σ F H e S => by
  refine h O σ F H S _ fun ws F1 H1 e1 h1 S1 d1 => ?_
  cases d1 with
  | cons q1 q2 =>
    cases q1; cases q2
    refine ⟨(n : Int), rfl, by omega, by omega, ?_⟩
    have en : ((n : Int)).toNat = n := by omega
    rw [en]
    refine for_range (lo := 0) (n := n) (fun i σ' H' => Pst c B (I i) σ' H') ⟨O, F1, ρ, e.trans e1, S1, h0⟩ ?_ ?_
    · rintro i σ' H' hi ⟨O', F', ρ1, e', S', iv⟩
      obtain ⟨js, ρ2, tg, go⟩ := hs i ρ1 hi iv
      rw [Int.zero_add]
      exact tg O' σ' F' H' _ S' (.int _) _ fun σ2 _ _ S2 => go O' σ2 F' H' e' S2
    · rintro σ' H' ⟨O', F', ρ1, e', S', iv⟩
      exact hd ρ1 iv O' σ' F' H' e' S'
theorem q_forR {ta : TA} {tb : TS} {n : Nat} (h : EvA c ta ρ [.int (n : Int)]) (hn : n ≤ 100000) (I : Nat → Rho → Prop) (h0 : I 0 ρ)
    (hs : ∀ (i : Nat) (ρ1 : Rho), i < n → I i ρ1 → ∃ js ρ2, TgOk c false g js ρ1 (.int (i : Int)) ρ2 ∧ Go c B tb { D with nx := Pst c B (I (i + 1)), ct := Pst c B (I (i + 1)), bk := tz D } ρ2)
    (hd : ∀ ρ1, I n ρ1 → Go c B tz D ρ1) : Go c B (tSeq (tFor (iRng1 ta) g tb) tz) D ρ := go_forR (D := { D with nx := tz D }) h hn I h0 hs hd
theorem go_forR2 {ta : TA} {tb : TS} {n : Nat} {lo hi : Int} (h : EvA c ta ρ [.int lo, .int hi]) (hb : -100000 ≤ lo ∧ lo ≤ 100000 ∧ -100000 ≤ hi ∧ hi ≤ 100000) (en : (hi - lo).toNat = n) (I : Nat → Rho → Prop) (h0 : I 0 ρ)
    (hs : ∀ (i : Nat) (ρ1 : Rho), i < n → I i ρ1 → ∃ js ρ2, TgOk c false g js ρ1 (.int (lo + (i : Int))) ρ2 ∧ Go c B tb { D with nx := Pst c B (I (i + 1)), ct := Pst c B (I (i + 1)), bk := D.nx } ρ2)
    (hd : ∀ ρ1, I n ρ1 → Nx c B D ρ1) : Go c B (tFor (iRng2 ta) g tb) D ρ := fun O σ F H e S => by
  refine h O σ F H S _ fun ws F1 H1 e1 h1 S1 d1 => ?_
  cases d1 with
  | cons q1 q2 =>
    cases q1
    cases q2 with
    | cons q3 q4 =>
      cases q3; cases q4
      refine ⟨lo, hi, rfl, by omega, ?_⟩
      rw [en]
      refine for_range (lo := lo) (n := n) (fun i σ' H' => Pst c B (I i) σ' H') ⟨O, F1, ρ, e.trans e1, S1, h0⟩ ?_ ?_
      · rintro i σ' H' hi ⟨O', F', ρ1, e', S', iv⟩
        obtain ⟨js, ρ2, tg, go⟩ := hs i ρ1 hi iv
        exact tg O' σ' F' H' _ S' (.int _) _ fun σ2 _ _ S2 => go O' σ2 F' H' e' S2
      · rintro σ' H' ⟨O', F', ρ1, e', S', iv⟩
        exact hd ρ1 iv O' σ' F' H' e' S'
theorem q_forR2 {ta : TA} {tb : TS} {n : Nat} {lo hi : Int} (h : EvA c ta ρ [.int lo, .int hi]) (hb : -100000 ≤ lo ∧ lo ≤ 100000 ∧ -100000 ≤ hi ∧ hi ≤ 100000) (en : (hi - lo).toNat = n) (I : Nat → Rho → Prop) (h0 : I 0 ρ)
    (hs : ∀ (i : Nat) (ρ1 : Rho), i < n → I i ρ1 → ∃ js ρ2, TgOk c false g js ρ1 (.int (lo + (i : Int))) ρ2 ∧ Go c B tb { D with nx := Pst c B (I (i + 1)), ct := Pst c B (I (i + 1)), bk := tz D } ρ2)
    (hd : ∀ ρ1, I n ρ1 → Go c B tz D ρ1) : Go c B (tSeq (tFor (iRng2 ta) g tb) tz) D ρ := go_forR2 (D := { D with nx := tz D }) h hb en I h0 hs hd
theorem go_while {tb : TS} (I : Nat → Rho → Prop) (m0 : Nat) (h0 : I m0 ρ)
    (hs : ∀ (m : Nat) (ρ1 : Rho), I m ρ1 → ∃ x, EvB c tt ρ1 x ∧ (x = true → Go c B tb { D with nx := Pst c B (fun r => ∃ m', m' < m ∧ I m' r), ct := Pst c B (fun r => ∃ m', m' < m ∧ I m' r), bk := D.nx } ρ1) ∧ (x = false → Nx c B D ρ1)) :
    Go c B (tWhile tt tb) D ρ := fun O σ F H e S => by
  refine ⟨fun m σ' H' => Pst c B (I m) σ' H', ⟨m0, O, F, ρ, e, S, h0⟩, ?_⟩
  rintro m σ' H' ⟨O', F', ρ1, e', S', iv⟩
  obtain ⟨x, eb, k1, k2⟩ := hs m ρ1 iv
  refine eb O' σ' F' H' S' _ fun F1 H1 e1 g1 S1 => ?_
  cases x with
  | true =>
    refine iteT ⟨Pst c B (fun r => ∃ m', m' < m ∧ I m' r), ?_, k1 rfl O' σ' F1 H1 (e'.trans e1) S1⟩
    rintro σ2 H2 ⟨O2, F2, ρ2, e2, S2, m', hm, iv2⟩
    exact ⟨m', hm, O2, F2, ρ2, e2, S2, iv2⟩
  | false => exact iteF (k2 rfl O' σ' F1 H1 (e'.trans e1) S1)
theorem q_while {tb : TS} (I : Nat → Rho → Prop) (m0 : Nat) (h0 : I m0 ρ)
    (hs : ∀ (m : Nat) (ρ1 : Rho), I m ρ1 → ∃ x, EvB c tt ρ1 x ∧ (x = true → Go c B tb { D with nx := Pst c B (fun r => ∃ m', m' < m ∧ I m' r), ct := Pst c B (fun r => ∃ m', m' < m ∧ I m' r), bk := tz D } ρ1) ∧ (x = false → Go c B tz D ρ1)) :
    Go c B (tSeq (tWhile tt tb) tz) D ρ := go_while (D := { D with nx := tz D }) I m0 h0 hs
/-! what leaves -/
theorem z_asg (h : EvZ c te ρ) : Go c B (tAsg te g) D ρ := fun O σ F H e S => h O σ F H S _
theorem z_drop (h : EvZ c te ρ) : Go c B (tDrop te) D ρ := fun O σ F H e S => h O σ F H S _
theorem z_ret (h : EvZ c te ρ) : Go c B (tRet te) D ρ := fun O σ F H e S => h O σ F H S _
theorem z_seq (h : ∀ D, Go c B t D ρ) : Go c B (tSeq t u) D ρ := h _
theorem zo_l {r : R2} (h : EvZ c te ρ) : EvZ c (tOp r te ta) ρ := fun O σ F H S Q => h O σ F H S _
theorem zo_r {r : R2} (h1 : Ev c b ta ρ d) (h : EvZ c te ρ) : EvZ c (tOp r ta te) ρ := fun O σ F H S Q => h1 O σ F H S _ fun v F1 H1 _ _ S1 _ => h O σ F1 H1 S1 _
theorem zb_test (h : EvZ c te ρ) : ∀ (O : Addr → Prop) (σ : St) (F H : Hp), Sim c O ρ σ F H → ∀ Q : Bool → Hp → Prop, tTest te σ H Q := fun O σ F H S Q => h O σ F H S _
end
/-! ### defs: promises -/
/-- a def that hands back data made anew: r of ds, where R ds r -/
def spF (K : PySem.W.Frag) (R : List PyData → PyData → Prop) : Sp := fun vs H Q _ => ∃ ds, DdAll (T1 K) H vs ds ∧ ∃ r, R ds r ∧ ∀ v H', Ex H H' → Dd (only fun a => H a = none) H' v r → Q v H'
/-- .. or refuses with the error of the class at C -/
def spX (K : PySem.W.Frag) (R : List PyData → PyData → Prop) (X : List PyData → Addr → Prop) : Sp := fun vs H Q E => ∃ ds, DdAll (T1 K) H vs ds ∧ ((∃ r, R ds r ∧ ∀ v H', Ex H H' → Dd (only fun a => H a = none) H' v r → Q v H') ∨ (∃ C, X ds C ∧ ∀ H', Ex H H' → E (.ref C) none H'))
/-- a list that the caller may change -/
def spL (K : PySem.W.Frag) (R : List PyData → List PyData → Prop) : Sp := fun vs H Q _ => ∃ ds, DdAll (T1 K) H vs ds ∧ ∃ r, R ds r ∧ ∀ p xs H', Ex H H' → H p = none → H' p = some (.lst xs) → DdAll (only fun a => H a = none ∧ a ≠ p) H' xs r → Q (.ref p) H'
section
variable {K : PySem.W.Frag} {c : Cq K} {b b' : Bool} {ρ : Rho} {ta : TA} {ds : List PyData} {r : PyData} {C : Addr} {R : List PyData → PyData → Prop} {RL : List PyData → List PyData → Prop} {Xr : List PyData → Addr → Prop} {E : XK}
theorem ev_call (h : EvA c ta ρ ds) (hR : R ds r) : Ev c b (tCall (spF K R) [] E ta) ρ r := fun O σ F H S Q k => h O σ F H S _ fun vs F1 H1 e1 h1 S1 d1 => by
  refine ⟨ds, by rw [List.append_nil]; exact d1, r, hR, fun v H' e2 dd => ?_⟩
  exact k v _ H' (e1.trans (addF_ex S1.ff)) (h1.trans e2) (S1.add e2) (dd.add S1 b)
theorem ev_callX (h : EvA c ta ρ ds) (hR : R ds r) : Ev c b (tCall (spX K R Xr) [] E ta) ρ r := fun O σ F H S Q k => h O σ F H S _ fun vs F1 H1 e1 h1 S1 d1 => by
  refine ⟨ds, by rw [List.append_nil]; exact d1, .inl ⟨r, hR, fun v H' e2 dd => ?_⟩⟩
  exact k v _ H' (e1.trans (addF_ex S1.ff)) (h1.trans e2) (S1.add e2) (dd.add S1 b)
theorem ez_callX (h : EvA c ta ρ ds) (hX : Xr ds C) (hE : ∀ H', Ex c.H0 H' → E (.ref C) none H') : EvZ c (tCall (spX K R Xr) [] E ta) ρ := fun O σ F H S Q => h O σ F H S _ fun vs F1 H1 e1 h1 S1 d1 =>
  ⟨ds, by rw [List.append_nil]; exact d1,   .inr ⟨C, hX, fun H' e2 => hE H' (S1.bb.trans e2)⟩⟩
theorem el_call {rl : List PyData} (h : EvA c ta ρ ds) (hR : RL ds rl) : EvL c b (tCall (spL K RL) [] E ta) ρ rl := fun O σ F H S Q k => h O σ F H S _ fun vs F1 H1 e1 h1 S1 d1 => by
  refine ⟨ds, by rw [List.append_nil]; exact d1, rl, hR, fun p xs H' e2 hp at_ dd => ?_⟩
  -- all that is new but the list itself
  have f1 : F1 p = none := S1.fresh hp
  let F2 : Hp := fun a => if a = p then none else addF F1 H1 H' a
  have ef : Ex F1 F2 := fun a o q => by
    show (if a = p then none else addF F1 H1 H' a) = some o
    rw [if_neg (fun z => by rw [z, f1] at q; cases q)]
    exact addF_ex S1.ff a o q
  have ff : Ex F2 H' := fun a o q => by
    have q' : (if a = p then none else addF F1 H1 H' a) = some o := q
    split at q'
    · cases q'
    · exact addF_sub S1.ff e2 a o q'
  have S2 : Sim c O ρ σ F2 H' := S1.grow ef e2 (fun a hn f0 => by
    show (if a = p then none else addF F1 H1 H' a) = none
    split
    · rfl
    · rw [addF_old hn]; exact f0) ff
  refine k p xs F2 H' (e1.trans ef) (h1.trans e2) S2 (Evl.fresh_back h1 hp) (if_pos rfl) at_ (S.notOwn (Evl.fresh_back h1 hp)) ?_
  refine dd.mono (fun a u (pa : H1 a = none ∧ a ≠ p) ra => ⟨Cq.any (Evl.fresh_back S1.bb pa.1), ?_⟩) fun _ _ (h : False) => h.elim
  have z : F2 a = addF F1 H1 H' a := if_neg pa.2
  rcases rd_add (F := F1) pa.1 ra with q | ⟨o, q⟩
  · exact .inl (z.trans q)
  · exact .inr ⟨o, z.trans q⟩
/-! entering a def's body -/
theorem enter_sim {N : List Str} {vs : List V} {H : Hp} (d : DdAll (T1 K) H vs ds) (hl : vs.length ≤ N.length) : Sim (K := K) ⟨H, fun a => H a = none, fun _ h => h⟩ (fun _ => False) (ds.map (Sl.val false) ++ List.replicate (N.length - ds.length) Sl.no) (L2.start N vs) H H := by
  have l := d.length
  refine ⟨Evl.Ex.refl _, Evl.Ex.refl _, fun _ h => h.elim, by simp [L2.start, l], fun i s o h1 h2 => ?_, fun i j s t o o' a h1 h2 h3 h4 h5 => ?_⟩
  · by_cases hi : i < ds.length
    · rw [List.getElem?_append_left (by rw [List.length_map]; exact hi), List.getElem?_map] at h1
      unfold L2.start at h2
      rw [List.getElem?_append_left (by rw [List.length_map]; omega), List.getElem?_map] at h2
      cases e1 : ds[i]? with
      | none => rw [e1] at h1; cases h1
      | some d0 =>
        rw [e1] at h1
        cases h1
        obtain ⟨v, e2, dd⟩ := d.get e1
        rw [e2] at h2
        cases h2
        exact ⟨v, rfl, dd⟩
    · rw [List.getElem?_append_right (by rw [List.length_map]; omega), List.getElem?_replicate] at h1
      split at h1
      · cases h1; trivial
      · cases h1
  · exfalso
    by_cases hi : i < ds.length
    · rw [List.getElem?_append_left (by rw [List.length_map]; exact hi), List.getElem?_map] at h1
      cases e1 : ds[i]? with
      | none => rw [e1] at h1; cases h1
      | some d0 => rw [e1] at h1; cases h1; exact h5
    · rw [List.getElem?_append_right (by rw [List.length_map]; omega), List.getElem?_replicate] at h1
      split at h1
      · cases h1; exact h5
      · cases h1
theorem enterF {N : List Str} {t : TS} {vs : List V} {H : Hp} {Q : VK} (h : spF K R vs H Q E) (hN : ∀ ds r, R ds r → ds.length ≤ N.length)
    (body : ∀ (c : Cq K) ds r, R ds r → Rt c Q r → Go c c.H0 t { nx := fun _ H' => Q .non H', rt := Q } (ds.map (Sl.val false) ++ List.replicate (N.length - ds.length) Sl.no)) : t { nx := fun _ H' => Q .non H', rt := Q } (L2.start N vs) H := by
  obtain ⟨ds, hd, r, hR, k⟩ := h
  exact body ⟨H, fun a => H a = none, fun _ h => h⟩ ds r hR k _ _ H H (Evl.Ex.refl _) (enter_sim hd (by rw [hd.length]; exact hN _ _ hR))
theorem enterX {N : List Str} {t : TS} {vs : List V} {H : Hp} {Q : VK} (h : spX K R Xr vs H Q E) (hN : ∀ ds r, R ds r → ds.length ≤ N.length) (hN2 : ∀ ds C, Xr ds C → ds.length ≤ N.length)
    (body : ∀ (c : Cq K) ds r, R ds r → Rt c Q r → Go c c.H0 t { nx := fun _ H' => Q .non H', rt := Q } (ds.map (Sl.val false) ++ List.replicate (N.length - ds.length) Sl.no))
    (bodyX : ∀ (c : Cq K) ds C, Xr ds C → (∀ H', Ex c.H0 H' → E (.ref C) none H') → Go c c.H0 t { nx := fun _ H' => Q .non H', rt := Q } (ds.map (Sl.val false) ++ List.replicate (N.length - ds.length) Sl.no)) : t { nx := fun _ H' => Q .non H', rt := Q } (L2.start N vs) H := by
  obtain ⟨ds, hd, h⟩ := h
  rcases h with ⟨r, hR, k⟩ | ⟨C, hX, k⟩
  · exact body ⟨H, fun a => H a = none, fun _ h => h⟩ ds r hR k _ _ H H (Evl.Ex.refl _) (enter_sim hd (by rw [hd.length]; exact hN _ _ hR))
  · exact bodyX ⟨H, fun a => H a = none, fun _ h => h⟩ ds C hX k _ _ H H (Evl.Ex.refl _) (enter_sim hd (by rw [hd.length]; exact hN2 _ _ hX))
/-- what a def that hands back a list of its own is asked for -/
def RtL {K : PySem.W.Frag} (c : Cq K) (Q : VK) (rl : List PyData) : Prop := ∀ p xs H', Ex c.H0 H' → c.H0 p = none → H' p = some (.lst xs) → DdAll (only fun a => c.H0 a = none ∧ a ≠ p) H' xs rl → Q (.ref p) H'
theorem enterL {N : List Str} {t : TS} {vs : List V} {H : Hp} {Q : VK} (h : spL K RL vs H Q E) (hN : ∀ ds r, RL ds r → ds.length ≤ N.length)
    (body : ∀ (c : Cq K) ds r, (∀ a, c.NW a → c.H0 a = none) → RL ds r → RtL c Q r → Go c c.H0 t { nx := fun _ H' => Q .non H', rt := Q } (ds.map (Sl.val false) ++ List.replicate (N.length - ds.length) Sl.no)) : t { nx := fun _ H' => Q .non H', rt := Q } (L2.start N vs) H := by
  obtain ⟨ds, hd, r, hR, k⟩ := h
  exact body ⟨H, fun a => H a = none, fun _ h => h⟩ ds r (fun _ h => h) hR k _ _ H H (Evl.Ex.refl _) (enter_sim hd (by rw [hd.length]; exact hN _ _ hR))
end
section
variable {K : PySem.W.Frag} {c : Cq K} {B : Hp} {b : Bool} {ρ : Rho} {D : Ends} {te : TE} {ds : List PyData} {i : Nat}
/-- an own list handed back as the caller's own -/
theorem retL_sim {O : Addr → Prop} {σ : St} {F H : Hp} {p : Addr} {xs : List V} {Q : VK} (S : Sim c O ρ σ F H) (hc : ∀ a, c.NW a → c.H0 a = none) (fp : F p = none) (at_ : H p = some (.lst xs)) (dd : DdAll (c.pw true) F xs ds) (k : RtL c Q ds) : Q (.ref p) H :=
  k p xs H S.bb (Evl.fresh_back S.base fp) at_ (dd.mono (fun a u pa ra => show (c.H0 a = none ∧ a ≠ p) ∧ Rd H a u from ⟨⟨hc a pa, fun z => by
    subst z
    rcases ra with q | ⟨o, q⟩
    · rw [fp] at q; cases q
    · rw [fp] at q; cases q⟩, rd_ex S.ff ra⟩) fun _ _ (h : False) => h.elim)
theorem go_retOL (hc : ∀ a, c.NW a → c.H0 a = none) (h : ρ[i]? = some (.own true ds)) (k : RtL c D.rt ds) : Go c B (tRet (tVar i)) D ρ := fun O σ F H e S => by
  obtain ⟨o, ho, a, xs, eo, f0, h1, dd⟩ := S.get h
  subst eo
  exact ⟨_, ho, retL_sim S hc f0 h1 dd k⟩
theorem go_retEL (hc : ∀ a, c.NW a → c.H0 a = none) (h : EvL c true te ρ ds) (k : RtL c D.rt ds) : Go c B (tRet te) D ρ := fun O σ F H e S => h O σ F H S _ fun p xs F1 H1 e1 h1 S1 hp fp at_ no dd => retL_sim S1 hc fp at_ dd k
/-- a list def called where any data will do -/
theorem RtL.rt (k : RtL c D.rt ds) : True := trivial
end
end DL

end
section
set_option maxRecDepth 100000
set_option maxHeartbeats 2000000
/-! rules that the hand layer lacks -/
namespace DL
open PySem PySem.Spec PyProof.Rows L2
section
variable {X : Cx}
theorem hu65 {k : Nat} {A : Around} (r : Room k A) : A.units + 65 < cLine := by have := r.un; omega
/-- a list to be read, as the machine holds it -/
theorem rd_lst {pins : List (Addr × Obj)} {σ : L2.St} {H : Hp} {s : Shared} {l : Addr} {xs : List V} (I : Inv X pins σ H s) (r : Rd H l (.lst xs)) : xs.length ≤ sizeLine ∧ ∃ (its : List Value) (n : Nat), Vals xs its ∧ xs.length = its.length ∧ s.heap.get? l = some { cls := .type "list", data := .seq its.toArray n } := by
  obtain ⟨hz, its, n, r, e⟩ := r.ok I.hok
  exact ⟨hz, its, n, r, r.length, e⟩
def rCatR : R2 := fun x y H Q => ∃ l b xs zs, x = .ref l ∧ y = .ref b ∧ Rd H l (.lst xs) ∧ Rd H b (.lst zs) ∧ xs.length + zs.length ≤ sizeLine ∧ ∀ p, H p = none → Q (.ref p) (upd H p (.lst (xs ++ zs)))
theorem op_catR : OpR X (binaryOp .Add) rCatR := by
  intro pins s σ H x y v u Q I rx ry h
  obtain ⟨l, b, xs, zs, rfl, rfl, hH, hB, hz, q⟩ := h
  cases rx
  cases ry
  obtain ⟨z, its, n, r, hl, e⟩ := rd_lst I hH
  obtain ⟨z2, its2, n2, r2, hl2, e2⟩ := rd_lst I hB
  refine PySem.P.add_list e e2 ?_ (by rw [List.size_toArray, List.size_toArray]; omega)
  have ea : its.toArray ++ its2.toArray = (its ++ its2).toArray := by simp
  rw [ea]
  exact ⟨.ref _, _, I.lnew (t' := s.toks) (r.append r2) (by rw [List.length_append]; omega), rfl, q _ I.fresh⟩
theorem pget_list : PGet X (rIxL X.K) := by
  intro pins s σ H x y v u Q I rx ry h
  obtain ⟨p, xs, i, z, rfl, rfl, hq, he, q⟩ := h
  cases rx
  obtain ⟨t, rfl⟩ := ry
  obtain ⟨its, r, pl, hz⟩ := I.list hq
  obtain ⟨j, h1, h2, h3, h4, h5⟩ := atI_get he
  obtain ⟨w, ew, rw'⟩ := r.get h2
  have hl := r.length
  have hn := line63
  have fin : EP X pins σ Q w s := ⟨z, H, I, rw', q⟩
  by_cases h0 : 0 ≤ i
  · have hj : i.toNat = j := by
      rw [seqIndex_of h0 h5] at h1
      exact Option.some.inj h1
    exact wpAny_getItem_list (x := w) pl.isList h0 (by omega) (by rw [hj]; simpa using ew) fin
  · have hj : (i + (its.toArray.size : Int)).toNat = j := by
      rw [seqIndex_neg (by omega) h4] at h1
      rw [List.size_toArray, ← hl]
      exact Option.some.inj h1
    exact wpAny_getItem_list_neg (x := w) pl.isList (by omega) (by rw [List.size_toArray] <;> omega) (by omega) (by rw [hj]; simpa using ew) fin
/-- * of factors of together less than a hundred million bits -/
def CMulB (i j : Int) : Prop := i.natAbs.log2 + j.natAbs.log2 < 100000000
theorem CMulB.ok {i j : Int} (h : CMulB i j) : IntMulOk i j := by
  have b : ∀ x : Int, Builtin.Int.intBits x ≤ x.natAbs.log2 + 1 := fun x => by
    unfold Builtin.Int.intBits
    split <;> omega
  have h1 := b i
  have h2 := b j
  have h3 : i.natAbs.log2 + j.natAbs.log2 < 100000000 := h
  have e : bitsLine = 134217728 := by decide
  unfold IntMulOk
  intro z
  rw [Bool.and_eq_true] at z
  have z2 := z.2
  unfold Builtin.Int.intTooBig at z2
  have z3 := of_decide_eq_true z2
  rw [e] at z3
  omega
theorem op_mulB : OpR X (binaryOp .Mult) (rI CMulB fun i j => .int (i * j)) := opI fun _ _ _ _ _ _ _ hc q => mul_int q hc.ok
/-- max(xs, default=d), ints -/
def rMaxD (K : PySem.W.Frag) : List V → List V → Hp → VK → Prop := fun vs zs H Q => ∃ (a : Addr) (ns : List Int) (d : V), vs = [V.ref a] ∧ zs = [d] ∧ SqL K H a (ns.map V.int) ∧ (ns = [] → Q d H) ∧ ∀ m, m ∈ ns → (∀ y, y ∈ ns → y ≤ m) → Q (.int m) H
def rMinD (K : PySem.W.Frag) : List V → List V → Hp → VK → Prop := fun vs zs H Q => ∃ (a : Addr) (ns : List Int) (d : V), vs = [V.ref a] ∧ zs = [d] ∧ SqL K H a (ns.map V.int) ∧ (ns = [] → Q d H) ∧ ∀ m, m ∈ ns → (∀ y, y ∈ ns → m ≤ y) → Q (.int m) H
theorem moved_kept {s s' : Shared} {I : Addr} {h0 : Heap} {G : Array GenState → Array GenState → Prop} (m : Moved [I] G s s') (hI : h0.get? I = none) (k : ∀ b o, h0.get? b = some o → s.heap.get? b = some o) : ∀ b o, h0.get? b = some o → s'.heap.get? b = some o := fun b o e =>
  m.heap b o (fun z => by
    rw [List.mem_singleton] at z
    rw [z, hI] at e; cases e) (k b o e)
theorem cr_maxD (hc : X.calm = true) : CallRK X (.builtin "max") ["default"] (rMaxD X.K) := by
  intro pins s σ H vs zs us ws Q I r rz h
  obtain ⟨a, ns, d, rfl, rfl, hs, h0, h1⟩ := h
  obtain ⟨its, rv, hl, _⟩ := I.list hs
  rw [Vals.ref1 r]
  obtain ⟨dv, rfl, rd⟩ := rz.one
  show wpAny _ _ (call (.builtin "max") [.ref a] [(Str.ofString "default", dv)]) _ _ _
  obtain ⟨xs, e⟩ := rv.ints.allInts.items
  have hn : numsOf (intItems xs).toList = ns := by rw [← e]; exact rv.ints.numsOf
  rw [nums_intItems] at hn
  subst hn
  have hl' : s.heap.IsList a (intItems xs) := by rw [← e]; exact hl.isList
  refine call_max_walkD (iter_intList hl' fun s₂ es st hfp hlI => ?_)
  subst es
  have hI0 : s.heap.get? s.heap.objs.size = none := Heap.get?_none_of_le (Nat.le_refl _)
  have k0 : ∀ b o, s.heap.get? b = some o → (s.heap.push { cls := .type "list_iterator", data := .fields #[.ref a, .int 0 0] }).get? b = some o := fun b o q => Heap.get?_push_of_some _ q
  have sz : (intItems xs).size = xs.size := by simp [intItems]
  refine ⟨_, _, _, _, _, _, _, s.heap, (fun i j => decide (numAt xs i > numAt xs j)), rfl, (Walks.list (A := X.A.in1) (I.ok.hd hc) _ a hlI (intItems xs)).toS, st, hfp, fun b o q z => ?_, k0, fun hz s' m => ?_, fun hz => ⟨fun i j vi vj s' Q' E' _ hi hj hq => CmpOf.ints_gt (numAt xs) (fun _ _ => intItems_at) i j vi vj s' Q' E' hi hj hq, fun v s' hP m => ?_⟩⟩
  · rw [List.mem_singleton] at z
    rw [z, hI0] at q; cases q
  · obtain ⟨hp, g, dr, tk, os⟩ := s'
    obtain ⟨h', g', d', o', t'⟩ := m
    have g2 : g = s.gens := g'
    have d2 : dr = s.drawn := d'
    have o2 : os = s.os := o'
    subst g2 d2 o2
    have hk := moved_kept (G := fun a b => b = a) (s' := ⟨hp, s.gens, s.drawn, tk, s.os⟩) ⟨h', rfl, rfl, rfl, t'⟩ hI0 k0
    refine ⟨d, H, I.kept hk, rd, h0 ?_⟩
    have z : xs.toList = [] := by
      have q : xs.size = 0 := by omega
      simpa using q
    simp [z]
  · obtain ⟨hp, g, dr, tk, os⟩ := s'
    obtain ⟨h', g', d', o', t'⟩ := m
    have g2 : g = s.gens := g'
    have d2 : dr = s.drawn := d'
    have o2 : os = s.os := o'
    subst g2 d2 o2
    have hk := moved_kept (G := fun a b => b = a) (s' := ⟨hp, s.gens, s.drawn, tk, s.os⟩) ⟨h', rfl, rfl, rfl, t'⟩ hI0 k0
    obtain ⟨t, rfl⟩ := intItems_at hP
    obtain ⟨q1, q2⟩ := argBest_gt (numAt xs) ((intItems xs).size - 1)
    refine ⟨.int _, H, I.kept hk, ⟨_, rfl⟩, h1 _ ?_ fun y hy => ?_⟩
    · rw [numAt_eq]; exact PySem.getD_mem (by rw [List.length_map, Array.length_toList]; omega)
    · obtain ⟨j, hj, rfl⟩ := mem_getD hy
      rw [List.length_map, Array.length_toList] at hj
      rw [← numAt_eq]; exact q2 j (by omega)
theorem cr_minD (hc : X.calm = true) : CallRK X (.builtin "min") ["default"] (rMinD X.K) := by
  intro pins s σ H vs zs us ws Q I r rz h
  obtain ⟨a, ns, d, rfl, rfl, hs, h0, h1⟩ := h
  obtain ⟨its, rv, hl, _⟩ := I.list hs
  rw [Vals.ref1 r]
  obtain ⟨dv, rfl, rd⟩ := rz.one
  show wpAny _ _ (call (.builtin "min") [.ref a] [(Str.ofString "default", dv)]) _ _ _
  obtain ⟨xs, e⟩ := rv.ints.allInts.items
  have hn : numsOf (intItems xs).toList = ns := by rw [← e]; exact rv.ints.numsOf
  rw [nums_intItems] at hn
  subst hn
  have hl' : s.heap.IsList a (intItems xs) := by rw [← e]; exact hl.isList
  refine call_min_walkD (iter_intList hl' fun s₂ es st hfp hlI => ?_)
  subst es
  have hI0 : s.heap.get? s.heap.objs.size = none := Heap.get?_none_of_le (Nat.le_refl _)
  have k0 : ∀ b o, s.heap.get? b = some o → (s.heap.push { cls := .type "list_iterator", data := .fields #[.ref a, .int 0 0] }).get? b = some o := fun b o q => Heap.get?_push_of_some _ q
  have sz : (intItems xs).size = xs.size := by simp [intItems]
  refine ⟨_, _, _, _, _, _, _, s.heap, (fun i j => decide (numAt xs i < numAt xs j)), rfl, (Walks.list (A := X.A.in1) (I.ok.hd hc) _ a hlI (intItems xs)).toS, st, hfp, fun b o q z => ?_, k0, fun hz s' m => ?_, fun hz => ⟨fun i j vi vj s' Q' E' _ hi hj hq => CmpOf.ints_lt (numAt xs) (fun _ _ => intItems_at) i j vi vj s' Q' E' hi hj hq, fun v s' hP m => ?_⟩⟩
  · rw [List.mem_singleton] at z
    rw [z, hI0] at q; cases q
  · obtain ⟨hp, g, dr, tk, os⟩ := s'
    obtain ⟨h', g', d', o', t'⟩ := m
    have g2 : g = s.gens := g'
    have d2 : dr = s.drawn := d'
    have o2 : os = s.os := o'
    subst g2 d2 o2
    have hk := moved_kept (G := fun a b => b = a) (s' := ⟨hp, s.gens, s.drawn, tk, s.os⟩) ⟨h', rfl, rfl, rfl, t'⟩ hI0 k0
    refine ⟨d, H, I.kept hk, rd, h0 ?_⟩
    have z : xs.toList = [] := by
      have q : xs.size = 0 := by omega
      simpa using q
    simp [z]
  · obtain ⟨hp, g, dr, tk, os⟩ := s'
    obtain ⟨h', g', d', o', t'⟩ := m
    have g2 : g = s.gens := g'
    have d2 : dr = s.drawn := d'
    have o2 : os = s.os := o'
    subst g2 d2 o2
    have hk := moved_kept (G := fun a b => b = a) (s' := ⟨hp, s.gens, s.drawn, tk, s.os⟩) ⟨h', rfl, rfl, rfl, t'⟩ hI0 k0
    obtain ⟨t, rfl⟩ := intItems_at hP
    obtain ⟨q1, q2⟩ := argBest_lt (numAt xs) ((intItems xs).size - 1)
    refine ⟨.int _, H, I.kept hk, ⟨_, rfl⟩, h1 _ ?_ fun y hy => ?_⟩
    · rw [numAt_eq]; exact PySem.getD_mem (by rw [List.length_map, Array.length_toList]; omega)
    · obtain ⟨j, hj, rfl⟩ := mem_getD hy
      rw [List.length_map, Array.length_toList] at hj
      rw [← numAt_eq]; exact q2 j (by omega)
def rRepR : R2 := fun x y H Q => ∃ l k xs, x = .ref l ∧ y = .int k ∧ Rd H l (.lst xs) ∧ -(2 ^ 63) ≤ k ∧ k < 2 ^ 63 ∧ xs.length * k.toNat ≤ sizeLine ∧
  ∀ p, H p = none → Q (.ref p) (upd H p (.lst (List.replicate k.toNat xs).flatten))
theorem op_repR : OpR X (binaryOp .Mult) rRepR := by
  intro pins s σ H x y v u Q I rx ry h
  obtain ⟨l, k, xs, rfl, rfl, hH, h1, h2, hz, q⟩ := h
  cases rx
  obtain ⟨t, rfl⟩ := ry
  obtain ⟨z, its, n, r, hl, e⟩ := rd_lst I hH
  have hlen : its.toArray.size * k.toNat ≤ sizeLine := by rw [List.size_toArray, ← hl]; exact hz
  have hcap : ¬ its.toArray.size * k.toNat > (2 ^ 63 - 1) / 8 := by
    have : (sizeLine : Nat) ≤ (2 ^ 63 - 1) / 8 := by decide
    omega
  have hfit : ¬ (!Builtin.List.listFitsIndex k) = true := by
    rw [fitsIndex_both h1 h2]
    exact Bool.false_ne_true
  have hlong : ¬ Builtin.List.listTooLong (its.toArray.size * k.toNat) = true := by
    rw [notLongL hlen]
    exact Bool.false_ne_true
  have hnew : List.foldl (fun x1 x2 => x1 ++ x2) #[] (List.replicate (if its.toArray.isEmpty = true then 0 else k.toNat) its.toArray) = (List.replicate k.toNat its).flatten.toArray := by
    have f0 : ∀ m : Nat, List.foldl (fun x1 x2 => x1 ++ x2) #[] (List.replicate m its.toArray) = (List.replicate m its).flatten.toArray := fun m => by
      have := foldl_rep its m []
      rw [List.nil_append] at this
      exact this
    rw [f0]
    cases its with
    | nil => simp
    | cons a r' => rw [if_neg (by simp)]
  refine wpAny_binaryOp_repeat_ref (T := "list") (U := "int") (by decide) ⟨_, e, rfl⟩ (fun s' => typeIs_int s' k t) noFill_list_mul F.fills_int_mul F.slot_int_rmul repeat_list F.slot_int_index.lookup
    (call_meets F.slot_int_rmul (typeIs_int s k t) F.entry_int_rmul (F.args_int_rmul_2 _ _) (int___rmul___int_list k t l its.toArray n)
      ⟨e, rfl, ⟨_, e, rfl⟩, call_meets F.slot_list_mul ⟨_, e, rfl⟩ F.entry_list_mul (F.args_list_mul_2 _ _) (AutoListH.list___mul___list_int_3 l its.toArray n k t hfit hcap hlong) ⟨e, ?_⟩⟩)
  rw [hnew]
  exact ⟨.ref _, _, I.lnew (t' := s.toks) (r.rep k.toNat) (by rw [PyProof.Rows.lm_len_rep_flat, Nat.mul_comm]; exact hz), rfl, q _ I.fresh⟩
end
/-! ### the defs of a program: where they stand, what they promise -/
structure Dfn (K : PySem.W.Frag) (mg : Str → Option Value) (x : Str) (st : Stmt) (ps : List Str) : Prop where
  ex : ∃ (f : Addr) (fd : FuncData), Fun K x x st f fd ∧ mg x = some (.ref f) ∧ Binds K fd ps []
structure Cl (P : Program) (w : World) (K : PySem.W.Frag) (mg : Str → Option Value) (base : Heap) (CX : CXT) (k : Nat) (x : Str) (sp : Sp) : Prop where
  ex : ∃ (f : Addr) (fd : FuncData) (ps : List Str), FnOk P w K mg base CX k f fd ps sp ∧ mg x = some (.ref f) ∧ PySem.W.keepIn K (.ref f) = true ∧ Binds K fd ps []
section
variable {X : Cx}
theorem pe_cl {CX : CXT} {k : Nat} {x : Str} {sp : Sp} {E : XK} {p pos : Pos} {e : Expr} {es : List Expr} {t : TA} (c : Cl X.prog X.w X.K X.mg X.base CX k x sp) (hr : Room k X.A) (hg : Gl X x) (hx : Passes CX X E) (ha : PA X (e :: es) t)
    (hdb : (x == ("__debug__" : Str)) = false := by decide) (he : starEach (e :: es) X.env = (false, eval e X.env) :: starEach es X.env := by rfl) (hpl : (backTo pos (starEach es X.env)).any (·.1) = false := by rfl) :
    PE X (.Call (.Name x p) (e :: es) [] pos) (tCall sp [] E t) := by
  obtain ⟨f, fd, ps, F, hm, kp, b⟩ := c.ex
  exact pe_call F hr hg hm kp b .nil hx ha hdb he hpl
end
section
variable {P : Program} {w : World} {K : PySem.W.Frag} {mg : Str → Option Value} {base : Heap} {x : Str} {st : Stmt} {N ps : List Str} {k : Nat} {C : Addr}
theorem fn_F {R : List PyData → PyData → Prop} {f : Addr} {fd : FuncData} (F : Fun K x x st f fd) (S : FnScope N ps (defScope st)) (hlen : ∀ ds r, R ds r → ds.length = ps.length)
    (hbody : ∀ (f : Addr) (cdv : Value) (A : Around) (outer : List Env) (s : Shared) (H : Hp) (E : XK), Room k (A.deeper (envOfC x (defScope st) s.heap.objs.size f cdv)) →
      ∃ t, PSs (cxOf CX0 P w K mg base N x (defScope st) f cdv A outer s H E).nox (defBody st) t ∧ ∀ (Q : VK) (c : Cq K) ds r, R ds r → Rt c Q r → Go c c.H0 t { nx := fun _ H' => Q .non H', rt := Q } (ds.map (Sl.val false) ++ List.replicate (N.length - ds.length) Sl.no)) :
    FnOk P w K mg base CX0 (k + 1) f fd ps (spF K R) := by
  refine F.ok S (fun vs H Q E h => ?_) (fun cdv A outer s H vs Q E hr h => ?_)
  · obtain ⟨ds, hd, r, hR, _⟩ := h
    rw [hd.length]; exact hlen _ _ hR
  · obtain ⟨t, h1, h2⟩ := hbody f cdv A outer s H E hr
    have hpl : ps.length ≤ N.length := by have := congrArg List.length S.pre; rw [List.length_take] at this; omega
    exact ⟨t, h1, enterF h (fun ds r hR => by rw [hlen _ _ hR]; exact hpl) fun c ds r hR hQ => h2 Q c ds r hR hQ⟩
theorem cl_F {R : List PyData → PyData → Prop} (D : Dfn K mg x st ps) (S : FnScope N ps (defScope st)) (hlen : ∀ ds r, R ds r → ds.length = ps.length)
    (hbody : ∀ (f : Addr) (cdv : Value) (A : Around) (outer : List Env) (s : Shared) (H : Hp) (E : XK), Room k (A.deeper (envOfC x (defScope st) s.heap.objs.size f cdv)) →
      ∃ t, PSs (cxOf CX0 P w K mg base N x (defScope st) f cdv A outer s H E).nox (defBody st) t ∧ ∀ (Q : VK) (c : Cq K) ds r, R ds r → Rt c Q r → Go c c.H0 t { nx := fun _ H' => Q .non H', rt := Q } (ds.map (Sl.val false) ++ List.replicate (N.length - ds.length) Sl.no)) :
    Cl P w K mg base CX0 (k + 1) x (spF K R) := by
  obtain ⟨f, fd, F, hm, b⟩ := D.ex
  exact ⟨f, fd, ps, fn_F F S hlen hbody, hm, F.kp, b⟩
theorem cl_L {R : List PyData → List PyData → Prop} (D : Dfn K mg x st ps) (S : FnScope N ps (defScope st)) (hlen : ∀ ds r, R ds r → ds.length = ps.length)
    (hbody : ∀ (f : Addr) (cdv : Value) (A : Around) (outer : List Env) (s : Shared) (H : Hp) (E : XK), Room k (A.deeper (envOfC x (defScope st) s.heap.objs.size f cdv)) →
      ∃ t, PSs (cxOf CX0 P w K mg base N x (defScope st) f cdv A outer s H E).nox (defBody st) t ∧ ∀ (Q : VK) (c : Cq K) ds r, (∀ a, c.NW a → c.H0 a = none) → R ds r → RtL c Q r → Go c c.H0 t { nx := fun _ H' => Q .non H', rt := Q } (ds.map (Sl.val false) ++ List.replicate (N.length - ds.length) Sl.no)) :
    Cl P w K mg base CX0 (k + 1) x (spL K R) := by
  obtain ⟨f, fd, F, hm, b⟩ := D.ex
  refine ⟨f, fd, ps, F.ok S (fun vs H Q E h => ?_) (fun cdv A outer s H vs Q E hr h => ?_), hm, F.kp, b⟩
  · obtain ⟨ds, hd, r, hR, _⟩ := h
    rw [hd.length]; exact hlen _ _ hR
  · obtain ⟨t, h1, h2⟩ := hbody f cdv A outer s H E hr
    have hpl : ps.length ≤ N.length := by have := congrArg List.length S.pre; rw [List.length_take] at this; omega
    exact ⟨t, h1, enterL (E := E) h (fun ds r hR => by rw [hlen _ _ hR]; exact hpl) fun c ds r hc hR hQ => h2 Q c ds r hc hR hQ⟩
theorem cl_X {R : List PyData → PyData → Prop} {Xr : List PyData → Addr → Prop} (D : Dfn K mg x st ps) (S : FnScope N ps (defScope st)) (hlen : ∀ ds r, R ds r → ds.length = ps.length) (hlenX : ∀ ds C, Xr ds C → ds.length = ps.length)
    (hbody : ∀ (f : Addr) (cdv : Value) (A : Around) (outer : List Env) (s : Shared) (H : Hp) (E : XK), Room k (A.deeper (envOfC x (defScope st) s.heap.objs.size f cdv)) →
      ∃ t, PSs (cxOf (L2.CX P w) P w K mg base N x (defScope st) f cdv A outer s H E) (defBody st) t ∧
        (∀ (Q : VK) (c : Cq K) ds r, R ds r → Rt c Q r → Go c c.H0 t { nx := fun _ H' => Q .non H', rt := Q } (ds.map (Sl.val false) ++ List.replicate (N.length - ds.length) Sl.no)) ∧
        (∀ (Q : VK) (c : Cq K) ds C, Xr ds C → (∀ H', Ex c.H0 H' → E (.ref C) none H') → Go c c.H0 t { nx := fun _ H' => Q .non H', rt := Q } (ds.map (Sl.val false) ++ List.replicate (N.length - ds.length) Sl.no))) :
    Cl P w K mg base (L2.CX P w) (k + 1) x (spX K R Xr) := by
  obtain ⟨f, fd, F, hm, b⟩ := D.ex
  refine ⟨f, fd, ps, F.okX S (fun vs H Q E h => ?_) (fun cdv A outer s H vs Q E hr h => ?_), hm, F.kp, b⟩
  · obtain ⟨ds, hd, h⟩ := h
    rw [hd.length]
    rcases h with ⟨r, hR, _⟩ | ⟨C, hX, _⟩
    · exact hlen _ _ hR
    · exact hlenX _ _ hX
  · obtain ⟨t, h1, h2, h3⟩ := hbody f cdv A outer s H E hr
    have hpl : ps.length ≤ N.length := by have := congrArg List.length S.pre; rw [List.length_take] at this; omega
    exact ⟨t, h1, enterX h (fun ds r hR => by rw [hlen _ _ hR]; exact hpl) (fun ds C hX => by rw [hlenX _ _ hX]; exact hpl) (fun c ds r hR hQ => h2 Q c ds r hR hQ) fun c ds C hX hE => h3 Q c ds C hX hE⟩
end
/-! ### more of what evaluates to what -/
section
variable {K : PySem.W.Frag} {c : Cq K} {b b' : Bool} {te ta tb tx : TE} {tt tu : TT} {ρ : Rho} {d : PyData} {ds es : List PyData} {i j : Int}
/-- a list to be read that is no list of the written part -/
def EvT (c : Cq K) (b : Bool) (te : TE) (ρ : Rho) (ds : List PyData) : Prop := ∀ (O : Addr → Prop) (σ : St) (F H : Hp), Sim c O ρ σ F H → ∀ Q : VK,
  (∀ a xs F' H', Ex F F' → Ex H H' → Sim c O ρ σ F' H' → Rd H' a (.lst xs) → DdAll (c.pw b) F' xs ds → Q (.ref a) H') → te σ H Q
theorem et_own {k : Nat} (h : ρ[k]? = some (.own b ds)) : EvT c b (tVar k) ρ ds := fun O σ F H S Q q => by
  obtain ⟨o, ho, a, xs, e, f0, h1, dd⟩ := S.get h
  exact ⟨_, by rw [ho, e], q _ xs F H (Evl.Ex.refl _) (Evl.Ex.refl _) S (.inl h1) dd⟩
theorem EvL.t (h : EvL c b te ρ ds) : EvT c b te ρ ds := fun O σ F H S Q k => h O σ F H S Q fun p xs F' H' e1 e2 S' hp fp at_ no dd => k p xs F' H' e1 e2 S' (.inl at_) dd
theorem Ev.t (h : Ev c true te ρ (.list ds)) : EvT c true te ρ ds := fun O σ F H S Q k => h O σ F H S Q fun v F' H' e1 e2 S' dd => by
  cases dd with
  | lst r q =>
    rcases r with ⟨_, r⟩ | r
    · exact k _ _ F' H' e1 e2 S' (rd_ex S'.ff r) q
    · exact (show False from r).elim
theorem EvT.weak (h : EvT c true te ρ ds) : EvT c false te ρ ds := fun O σ F H S Q k => h O σ F H S Q fun a xs F' H' e1 e2 S' r dd => k a xs F' H' e1 e2 S' r (dd.up Cq.more (Evl.Ex.refl _))
theorem EvT.e (h : EvT c b te ρ ds) : EvE c b te ρ ds := fun O σ F H S Q k => h O σ F H S Q fun a xs F' H' e1 e2 S' r dd => k a xs F' H' e1 e2 S' (.inl r) dd
theorem el_cat (ha : EvT c b ta ρ ds) (hb : EvT c b tb ρ es) (hl : ds.length + es.length ≤ 100000) : EvL c b (tOp rCatR ta tb) ρ (ds ++ es) := fun O σ F H S Q k =>
  ha O σ F H S _ fun a xs F1 H1 e1 h1 S1 r1 d1 => hb O σ F1 H1 S1 _ fun a2 ys F2 H2 e2 h2 S2 r2 d2 =>
    ⟨a, a2, xs, ys, rfl, rfl, rd_ex h2 r1, r2, Evl.sz_of (by rw [d1.length, d2.length]; exact hl), lay_list k (e1.trans e2) (h1.trans h2) S2 ((d1.ex e2).append d2)⟩
theorem DdAll.rep {m : Mode} {H : Hp} {vs : List V} {ds : List PyData} (h : DdAll m H vs ds) : ∀ n : Nat, DdAll m H (List.replicate n vs).flatten (List.replicate n ds).flatten
  | 0 => .nil
  | n + 1 => by
    rw [List.replicate_succ, List.replicate_succ, List.flatten_cons, List.flatten_cons]
    exact DdAll.append h (DdAll.rep h n)
theorem el_rep {n : Int} (ha : EvT c b ta ρ ds) (hb : EvR c tb ρ (.int n)) (hn : -100000 ≤ n ∧ n ≤ 100000) (hl : ds.length * n.toNat ≤ 100000) : EvL c b (tOp rRepR ta tb) ρ (List.replicate n.toNat ds).flatten := fun O σ F H S Q k =>
  ha O σ F H S _ fun a xs F1 H1 e1 h1 S1 r1 d1 => hb O σ F1 H1 S1 _ fun v F2 H2 e2 h2 S2 d2 => by
    cases d2
    exact ⟨a, n, xs, rfl, rfl, rd_ex h2 r1, by omega, by omega, Evl.sz_of (by rw [d1.length]; exact hl), lay_list k (e1.trans e2) (h1.trans h2) S2 ((d1.ex e2).rep _)⟩
theorem ev_maxD {ns : List Int} {m : Int} (ha : EvR c ta ρ (.list (ns.map PyData.int))) (hd : EvR c tb ρ (.int j)) (h0 : ns = [] → m = j) (h1 : ns ≠ [] → m ∈ ns ∧ ∀ y ∈ ns, y ≤ m) : Ev c b (tCKw (rMaxD K) (tCons ta tNil) (tCons tb tNil)) ρ (.int m) := fun O σ F H S Q k =>
  ha O σ F H S _ fun v F1 H1 e1 g1 S1 d1 => hd O σ F1 H1 S1 _ fun u F2 H2 e2 g2 S2 d2 => by
    cases d2
    cases d1 with
    | lst r q =>
      have e := q.ints
      subst e
      refine ⟨_, ns, _, rfl, rfl, dd_sq (fun _ _ h => h) g2 r, fun z => ?_, fun n q1 q2 => ?_⟩
      · rw [← h0 z]; exact k _ F2 H2 (e1.trans e2) (g1.trans g2) S2 (.int _)
      · have z : ns ≠ [] := List.ne_nil_of_mem q1
        obtain ⟨m1, m2⟩ := h1 z
        have e : n = m := by
          have a1 := q2 m m1
          have a2 := m2 n q1
          omega
        rw [e]; exact k _ F2 H2 (e1.trans e2) (g1.trans g2) S2 (.int _)
theorem ev_minD {ns : List Int} {m : Int} (ha : EvR c ta ρ (.list (ns.map PyData.int))) (hd : EvR c tb ρ (.int j)) (h0 : ns = [] → m = j) (h1 : ns ≠ [] → m ∈ ns ∧ ∀ y ∈ ns, m ≤ y) : Ev c b (tCKw (rMinD K) (tCons ta tNil) (tCons tb tNil)) ρ (.int m) := fun O σ F H S Q k =>
  ha O σ F H S _ fun v F1 H1 e1 g1 S1 d1 => hd O σ F1 H1 S1 _ fun u F2 H2 e2 g2 S2 d2 => by
    cases d2
    cases d1 with
    | lst r q =>
      have e := q.ints
      subst e
      refine ⟨_, ns, _, rfl, rfl, dd_sq (fun _ _ h => h) g2 r, fun z => ?_, fun n q1 q2 => ?_⟩
      · rw [← h0 z]; exact k _ F2 H2 (e1.trans e2) (g1.trans g2) S2 (.int _)
      · have z : ns ≠ [] := List.ne_nil_of_mem q1
        obtain ⟨m1, m2⟩ := h1 z
        have e : n = m := by
          have a1 := q2 m m1
          have a2 := m2 n q1
          omega
        rw [e]; exact k _ F2 H2 (e1.trans e2) (g1.trans g2) S2 (.int _)
/-- list(range(n)) -/
theorem el_listRg {n : Nat} (ha : EvR c ta ρ (.int (n : Int))) (hn : n ≤ 100000) : EvL c b (tLstRg (tRg1 ta)) ρ ((List.range n).map fun i : Nat => PyData.int (i : Int)) := fun O σ F H S Q k =>
  ha O σ F H S _ fun v F1 H1 e1 g1 S1 d1 => by
    cases d1
    refine ⟨(n : Int), rfl, ⟨by omega, by omega, by omega, by omega, by omega⟩, ?_⟩
    have e : rgV 0 (n : Int) = (List.range n).map fun i : Nat => V.int (i : Int) := by
      unfold rgV
      rw [show ((n : Int) - 0).toNat = n by omega]
      exact List.map_congr_left fun a _ => by rw [Int.zero_add]
    rw [e]
    refine lay_list k e1 g1 S1 ?_
    have q : ∀ l : List Nat, DdAll (c.pw b) F1 (l.map fun i : Nat => V.int (i : Int)) (l.map fun i : Nat => PyData.int (i : Int)) := fun l => by
      induction l with
      | nil => exact .nil
      | cons a r ih => exact .cons (.int _) ih
    exact q _
/-! isinstance, of a built-in class -/
def tyNm : PyData → String
  | .none => "NoneType"
  | .bool _ => "bool"
  | .int _ => "int"
  | .str _ => "str"
  | .list _ => "list"
  | .tuple _ => "tuple"
  | .dict _ => "dict"
theorem tyx_of {m : Mode} {H : Hp} {v : V} (h : Dd m H v d) (hl : ∀ a xs, m.L a xs → KL K a xs) : TyX K H v (.type (tyNm d)) := by
  cases h with
  | non => exact .base (.non)
  | bl b => exact .base (.bl b)
  | int i => exact .base (.int i)
  | str x => exact .base (.str x)
  | lst r q =>
    rcases r with ⟨_, r | ⟨o, r⟩⟩ | r
    · exact .base (.lst r)
    · exact .base (.frz r)
    · obtain ⟨o, _, _, h1, h2, _⟩ := hl _ _ r
      exact .kList h1 h2
  | tup p r q =>
    rcases r with r | ⟨o, r⟩
    · exact .base (.tup r)
    · exact .fTuple r
  | dic p r e1 e2 e3 q =>
    rcases r with r | ⟨o, r⟩
    · exact .base (.dK r)
    · exact .fDict r
theorem ev_isi {n : String} {r : Bool} (ha : EvR c ta ρ d) (h : kitB (tyNm d) n = some r) : Ev c b (tCB (rIsi K) (tCons ta (tCons (tC (.ty n)) tNil))) ρ (.bool r) := fun O σ F H S Q k =>
  ha O σ F H S _ fun v F1 H1 e1 g1 S1 d1 => ⟨v, .ty n, _, _, r, rfl, .ty n, tyx_of d1 (fun _ _ h => h), kit_ty h, k _ F1 H1 e1 g1 S1 (.bl _)⟩
theorem kb_ii : kitB "int" "int" = some true := by decide +kernel
theorem kb_ib : kitB "int" "bool" = some false := by decide +kernel
theorem kb_bb : kitB "bool" "bool" = some true := by decide +kernel
theorem kb_ll : kitB "list" "list" = some true := by decide +kernel
theorem kb_tt : kitB "tuple" "tuple" = some true := by decide +kernel
theorem kb_nl : kitB "NoneType" "list" = some false := by decide +kernel
theorem kb_ni : kitB "NoneType" "int" = some false := by decide +kernel
end
end DL

end
section
set_option maxRecDepth 100000
set_option maxHeartbeats 2000000
/-! loops whose states are told one by one, sizes of numbers, plain encodings -/
namespace DL
open PySem L2
section
variable {K : PySem.W.Frag} {c : Cq K} {B : Hp} {b b' : Bool} {ρ ρ' ρ1 ρ2 : Rho} {D : Ends} {t u tz : TS} {te tl : TE} {tt : TT} {ta : TA} {d : PyData} {g : TG} {gs : TGs} {js : List Nat}
theorem tg_weak (l : Le ρ ρ1) (h : TgOk c b g js ρ d ρ2) : TgOk c b g js ρ1 d ρ2 := fun O σ F H v S x Q k => h O σ F H v (S.le l) x Q k
theorem go_forD {α : Type} {xs : List α} {enc : α → PyData} {tb : TS} (P : Nat → Prop) (ρf : Nat → Rho) (h : Ev c b tl ρ (.list (xs.map enc))) (hP : P 0) (h0 : Le (ρf 0) ρ)
    (hs : ∀ (B' : Hp) (i : Nat) (x : α), xs[i]? = some x → P i → ∃ js ρ2, TgOk c b g js (ρf i) (enc x) ρ2 ∧ Go c B' tb { D with nx := Pst c B' (fun r => P (i + 1) ∧ Le (ρf (i + 1)) r), ct := Pst c B' (fun r => P (i + 1) ∧ Le (ρf (i + 1)) r), bk := D.nx } ρ2)
    (hd : P xs.length → Nx c B D (ρf xs.length)) : Go c B (tFor (iList K tl) g tb) D ρ :=
  go_for h (fun i r => P i ∧ Le (ρf i) r) ⟨hP, h0⟩ (fun B' i x ρ1 hx ⟨p, l⟩ => by
    obtain ⟨js, ρ2, tg, go⟩ := hs B' i x hx p
    exact ⟨js, ρ2, tg_weak l tg, go⟩) fun ρ1 ⟨p, l⟩ => nx_weak l (hd p)
theorem q_forD {α : Type} {xs : List α} {enc : α → PyData} {tb : TS} (P : Nat → Prop) (ρf : Nat → Rho) (h : Ev c b tl ρ (.list (xs.map enc))) (hP : P 0) (h0 : Le (ρf 0) ρ)
    (hs : ∀ (B' : Hp) (i : Nat) (x : α), xs[i]? = some x → P i → ∃ js ρ2, TgOk c b g js (ρf i) (enc x) ρ2 ∧ Go c B' tb { D with nx := Pst c B' (fun r => P (i + 1) ∧ Le (ρf (i + 1)) r), ct := Pst c B' (fun r => P (i + 1) ∧ Le (ρf (i + 1)) r), bk := tz D } ρ2)
    (hd : P xs.length → Go c B tz D (ρf xs.length)) : Go c B (tSeq (tFor (iList K tl) g tb) tz) D ρ := go_forD (D := { D with nx := tz D }) P ρf h hP h0 hs hd
theorem go_forRD {tb : TS} {n : Nat} (P : Nat → Prop) (ρf : Nat → Rho) (h : EvA c ta ρ [.int (n : Int)]) (hn : n ≤ 100000) (hP : P 0) (h0 : Le (ρf 0) ρ)
    (hs : ∀ (i : Nat), i < n → P i → ∃ js ρ2, TgOk c false g js (ρf i) (.int (i : Int)) ρ2 ∧ Go c B tb { D with nx := Pst c B (fun r => P (i + 1) ∧ Le (ρf (i + 1)) r), ct := Pst c B (fun r => P (i + 1) ∧ Le (ρf (i + 1)) r), bk := D.nx } ρ2)
    (hd : P n → Nx c B D (ρf n)) : Go c B (tFor (iRng1 ta) g tb) D ρ :=
  go_forR h hn (fun i r => P i ∧ Le (ρf i) r) ⟨hP, h0⟩ (fun i ρ1 hx ⟨p, l⟩ => by
    obtain ⟨js, ρ2, tg, go⟩ := hs i hx p
    exact ⟨js, ρ2, tg_weak l tg, go⟩) fun ρ1 ⟨p, l⟩ => nx_weak l (hd p)
theorem q_forRD {tb : TS} {n : Nat} (P : Nat → Prop) (ρf : Nat → Rho) (h : EvA c ta ρ [.int (n : Int)]) (hn : n ≤ 100000) (hP : P 0) (h0 : Le (ρf 0) ρ)
    (hs : ∀ (i : Nat), i < n → P i → ∃ js ρ2, TgOk c false g js (ρf i) (.int (i : Int)) ρ2 ∧ Go c B tb { D with nx := Pst c B (fun r => P (i + 1) ∧ Le (ρf (i + 1)) r), ct := Pst c B (fun r => P (i + 1) ∧ Le (ρf (i + 1)) r), bk := tz D } ρ2)
    (hd : P n → Go c B tz D (ρf n)) : Go c B (tSeq (tFor (iRng1 ta) g tb) tz) D ρ := go_forRD (D := { D with nx := tz D }) P ρf h hn hP h0 hs hd
theorem go_forR2D {tb : TS} {n : Nat} {lo hi : Int} (P : Nat → Prop) (ρf : Nat → Rho) (h : EvA c ta ρ [.int lo, .int hi]) (hb : -100000 ≤ lo ∧ lo ≤ 100000 ∧ -100000 ≤ hi ∧ hi ≤ 100000) (en : (hi - lo).toNat = n) (hP : P 0) (h0 : Le (ρf 0) ρ)
    (hs : ∀ (i : Nat), i < n → P i → ∃ js ρ2, TgOk c false g js (ρf i) (.int (lo + (i : Int))) ρ2 ∧ Go c B tb { D with nx := Pst c B (fun r => P (i + 1) ∧ Le (ρf (i + 1)) r), ct := Pst c B (fun r => P (i + 1) ∧ Le (ρf (i + 1)) r), bk := D.nx } ρ2)
    (hd : P n → Nx c B D (ρf n)) : Go c B (tFor (iRng2 ta) g tb) D ρ :=
  go_forR2 h hb en (fun i r => P i ∧ Le (ρf i) r) ⟨hP, h0⟩ (fun i ρ1 hx ⟨p, l⟩ => by
    obtain ⟨js, ρ2, tg, go⟩ := hs i hx p
    exact ⟨js, ρ2, tg_weak l tg, go⟩) fun ρ1 ⟨p, l⟩ => nx_weak l (hd p)
theorem q_forR2D {tb : TS} {n : Nat} {lo hi : Int} (P : Nat → Prop) (ρf : Nat → Rho) (h : EvA c ta ρ [.int lo, .int hi]) (hb : -100000 ≤ lo ∧ lo ≤ 100000 ∧ -100000 ≤ hi ∧ hi ≤ 100000) (en : (hi - lo).toNat = n) (hP : P 0) (h0 : Le (ρf 0) ρ)
    (hs : ∀ (i : Nat), i < n → P i → ∃ js ρ2, TgOk c false g js (ρf i) (.int (lo + (i : Int))) ρ2 ∧ Go c B tb { D with nx := Pst c B (fun r => P (i + 1) ∧ Le (ρf (i + 1)) r), ct := Pst c B (fun r => P (i + 1) ∧ Le (ρf (i + 1)) r), bk := tz D } ρ2)
    (hd : P n → Go c B tz D (ρf n)) : Go c B (tSeq (tFor (iRng2 ta) g tb) tz) D ρ := go_forR2D (D := { D with nx := tz D }) P ρf h hb en hP h0 hs hd
/-- the end of a turn -/
theorem nx_turn {P : Prop} {rt : VK} {bk ct : L2.St → Hp → Prop} (p : P) (l : Le ρ' ρ) : Nx c B ⟨Pst c B (fun r => P ∧ Le ρ' r), rt, bk, ct⟩ ρ := nx_pst ⟨p, l⟩
end
/-! ### sizes -/
/-- |x| below 2 ^ n -/
structure Sz (n : Nat) (x : Int) : Prop where
  h : x.natAbs < 2 ^ n
theorem Sz.mono {m n : Nat} {x : Int} (h : Sz m x) (l : m ≤ n) : Sz n x := ⟨Nat.lt_of_lt_of_le h.h (Nat.pow_le_pow_right (by decide) l)⟩
theorem Sz.add {n : Nat} {x y : Int} (h : Sz n x) (g : Sz n y) : Sz (n + 1) (x + y) := ⟨by
  have a := h.h
  have b := g.h
  rw [Nat.pow_succ]
  omega⟩
theorem Sz.sub {n : Nat} {x y : Int} (h : Sz n x) (g : Sz n y) : Sz (n + 1) (x - y) := ⟨by
  have a := h.h
  have b := g.h
  rw [Nat.pow_succ]
  omega⟩
theorem Sz.add2 {m n : Nat} {x y : Int} (h : Sz m x) (g : Sz n y) : Sz (max m n + 1) (x + y) := Sz.add (h.mono (Nat.le_max_left _ _)) (g.mono (Nat.le_max_right _ _))
theorem Sz.sub2 {m n : Nat} {x y : Int} (h : Sz m x) (g : Sz n y) : Sz (max m n + 1) (x - y) := Sz.sub (h.mono (Nat.le_max_left _ _)) (g.mono (Nat.le_max_right _ _))
theorem Sz.mul {m n : Nat} {x y : Int} (h : Sz m x) (g : Sz n y) : Sz (m + n) (x * y) := ⟨by
  rw [Int.natAbs_mul, Nat.pow_add]
  exact Nat.mul_lt_mul'' h.h g.h⟩
theorem Sz.neg {n : Nat} {x : Int} (h : Sz n x) : Sz n (-x) := ⟨by rw [Int.natAbs_neg]; exact h.h⟩
theorem Sz.log {n : Nat} {x : Int} (h : Sz n x) : x.natAbs.log2 ≤ n := by
  by_cases z : x.natAbs = 0
  · rw [z]; simp
  · exact Nat.le_of_lt ((Nat.log2_lt z).mpr h.h)
theorem Sz.mulB {m n : Nat} {x y : Int} (h : Sz m x) (g : Sz n y) (l : m + n < 100000000) : CMulB x y := by
  have a := h.log
  have b := g.log
  unfold CMulB
  omega
theorem Sz.of_le {n : Nat} {x y : Int} (h : Sz n y) (h0 : 0 ≤ x) (l : x ≤ y) : Sz n x := ⟨by have := h.h; omega⟩
theorem Sz.of_abs {n : Nat} {x y : Int} (h : Sz n y) (l : x.natAbs ≤ y.natAbs) : Sz n x := ⟨Nat.lt_of_le_of_lt l h.h⟩
theorem Sz.of_nat {n : Nat} {x : Int} (l : x.natAbs < 2 ^ n) : Sz n x := ⟨l⟩
theorem Sz.lt {x : Int} {n : Nat} (h0 : 0 ≤ x) (h : x < 2 ^ n) : Sz n x := ⟨by
  have e : ((2 ^ n : Nat) : Int) = (2 : Int) ^ n := by simp
  omega⟩
theorem Sz.bits {n : Nat} {x : Int} (h : Builtin.Int.intBits x ≤ n) : Sz n x := by
  refine ⟨?_⟩
  unfold Builtin.Int.intBits at h
  split at h
  · rename_i z
    have : x.natAbs = 0 := by simp_all
    rw [this]
    exact Nat.pow_pos (by decide)
  · rename_i z
    have z' : x.natAbs ≠ 0 := by
      intro q
      apply z
      simp_all
    exact (Nat.log2_lt z').mp (by omega)
theorem Sz.divW {n : Nat} {x j : Int} (h : 0 < j) (g : Sz n j) (l : n < 9000) : CDivW x j := ⟨h, Nat.lt_of_le_of_lt g.log l⟩
theorem Sz.div {n : Nat} {x j : Int} (h : Sz n x) (g : 0 < j) : Sz n (x / j) := h.of_abs (by
  have := Int.natAbs_ediv_le_natAbs x j
  omega)
/-! ### pairs and triples of ints as lists -/
abbrev pD (p : Int × Int) : PyData := .list [.int p.1, .int p.2]
abbrev wD (p : Int × Int × Int) : PyData := .list [.int p.1, .int p.2.1, .int p.2.2]
abbrev iL (xs : List Int) : PyData := .list (xs.map PyData.int)
abbrev pL (xs : List (Int × Int)) : PyData := .list (xs.map pD)
abbrev wL (xs : List (Int × Int × Int)) : PyData := .list (xs.map wD)
/-- the script as a law gets it -/
theorem law_in {K : PySem.W.Frag} {R : List PyData → PyData → Prop} {H : Hp} {a : Addr} {ns : List Int} {E : XK} (hS : SqL K H a (ns.map V.int)) (hR : R [iL ns] (.bool true)) : spF K R [.ref a] H (fun v _ => v = .bl true) E :=
  ⟨[iL ns], .cons (.lst (sq_dd hS) (DdAll.ofInts ns)) .nil, .bool true, hR, fun v H' _ dd => by cases dd; rfl⟩
end DL

end
section
set_option maxRecDepth 100000
set_option maxHeartbeats 2000000
/-! data that is compared, copied -/
namespace DL
open PySem L2
mutual
/-- ints, texts, None, lists and tuples of such -/
def plain : PyData → Bool
  | .none => true
  | .bool _ => false
  | .int _ => true
  | .str x => PyData.strOk x
  | .list xs => plainAll xs
  | .tuple xs => plainAll xs
  | .dict _ => false
def plainAll : List PyData → Bool
  | [] => true
  | x :: xs => plain x && plainAll xs
end
mutual
theorem plain_lay : ∀ d : PyData, plain d = true → d.canLay0 = true
  | .none, _ => by simp [PyData.canLay0]
  | .bool _, h => by simp [plain] at h
  | .int _, _ => by simp [PyData.canLay0]
  | .str x, h => by simp only [plain] at h; simp only [PyData.canLay0]; exact h
  | .list xs, h => by simp only [plain] at h; simp only [PyData.canLay0]; exact plain_layAll xs h
  | .tuple xs, h => by simp only [plain] at h; simp only [PyData.canLay0]; exact plain_layAll xs h
  | .dict _, h => by simp [plain] at h
theorem plain_layAll : ∀ xs : List PyData, plainAll xs = true → PyData.canLayAll0 xs = true
  | [], _ => by simp only [PyData.canLayAll0]
  | x :: xs, h => by
    simp only [plainAll, Bool.and_eq_true] at h
    simp only [PyData.canLayAll0, Bool.and_eq_true]
    exact ⟨plain_lay x h.1, plain_layAll xs h.2⟩
end
mutual
theorem eqv_plain : ∀ d e : PyData, plain d = true → plain e = true → (PyData.eqv d e = true ↔ d = e)
  | .none, e, _, h2 => by cases e <;> simp [PyData.eqv, plain] at *
  | .bool _, e, h, _ => by simp [plain] at h
  | .int i, e, _, h2 => by cases e <;> simp [PyData.eqv, plain] at *
  | .str x, e, _, h2 => by cases e <;> simp [PyData.eqv, plain] at *
  | .list xs, e, h, h2 => by
    cases e with
    | list ys =>
      simp only [plain] at h h2
      simp only [PyData.eqv, PyData.list.injEq]
      exact eqvAll_plain xs ys h h2
    | _ => simp [PyData.eqv, plain] at *
  | .tuple xs, e, h, h2 => by
    cases e with
    | tuple ys =>
      simp only [plain] at h h2
      simp only [PyData.eqv, PyData.tuple.injEq]
      exact eqvAll_plain xs ys h h2
    | _ => simp [PyData.eqv, plain] at *
  | .dict _, e, h, _ => by simp [plain] at h
theorem eqvAll_plain : ∀ xs ys : List PyData, plainAll xs = true → plainAll ys = true → (PyData.eqvAll xs ys = true ↔ xs = ys)
  | [], [], _, _ => by simp [PyData.eqvAll]
  | [], _ :: _, _, _ => by simp [PyData.eqvAll]
  | _ :: _, [], _, _ => by simp [PyData.eqvAll]
  | x :: xs, y :: ys, h, h2 => by
    simp only [plainAll, Bool.and_eq_true] at h h2
    simp only [PyData.eqvAll, Bool.and_eq_true, List.cons.injEq]
    rw [eqv_plain x y h.1 h2.1, eqvAll_plain xs ys h.2 h2.2]
end
/-- data that may be compared: plain, at most k deep -/
structure Nice (k : Nat) (d : PyData) : Prop where
  pl : plain d = true
  dp : d.depth ≤ k
theorem plainAll_iff : ∀ {xs : List PyData}, plainAll xs = true ↔ ∀ d ∈ xs, plain d = true
  | [] => by simp [plainAll]
  | x :: xs => by simp [plainAll, plainAll_iff (xs := xs)]
theorem depthAll_le : ∀ {xs : List PyData} {k : Nat}, (∀ d ∈ xs, d.depth ≤ k) → PyData.depthAll xs ≤ k
  | [], k, _ => by simp [PyData.depthAll]
  | x :: xs, k, h => by
    simp only [PyData.depthAll]
    have a := h x (by simp)
    have b := depthAll_le (xs := xs) (k := k) fun d hd => h d (by simp [hd])
    omega
theorem Nice.mono {j k : Nat} {d : PyData} (h : Nice j d) (l : j ≤ k) : Nice k d := ⟨h.pl, Nat.le_trans h.dp l⟩
theorem nice_int (k : Nat) (i : Int) : Nice k (.int i) := ⟨by simp [plain], by simp [PyData.depth]⟩
theorem nice_none (k : Nat) : Nice k .none := ⟨by simp [plain], by simp [PyData.depth]⟩
theorem nice_str (k : Nat) {x : Str} (h : PyData.strOk x = true) : Nice k (.str x) := ⟨by simp [plain, h], by simp [PyData.depth]⟩
theorem nice_list {k : Nat} {xs : List PyData} (h : ∀ d ∈ xs, Nice k d) : Nice (k + 1) (.list xs) := ⟨by simp only [plain]; exact plainAll_iff.mpr fun d hd => (h d hd).pl, by
  simp only [PyData.depth]
  have := depthAll_le (xs := xs) (k := k) fun d hd => (h d hd).dp
  omega⟩
theorem nice_tup {k : Nat} {xs : List PyData} (h : ∀ d ∈ xs, Nice k d) : Nice (k + 1) (.tuple xs) := ⟨by simp only [plain]; exact plainAll_iff.mpr fun d hd => (h d hd).pl, by
  simp only [PyData.depth]
  have := depthAll_le (xs := xs) (k := k) fun d hd => (h d hd).dp
  omega⟩
theorem nice_map {α : Type} {k : Nat} {f : α → PyData} (h : ∀ a, Nice k (f a)) (xs : List α) : Nice (k + 1) (.list (xs.map f)) := nice_list fun d hd => by
  obtain ⟨a, _, rfl⟩ := List.mem_map.mp hd
  exact h a
theorem nice_iL (xs : List Int) : Nice 1 (iL xs) := nice_map (fun a => nice_int 0 a) xs
theorem nice_pD (p : Int × Int) : Nice 1 (pD p) := nice_list fun d hd => by
  simp at hd
  rcases hd with rfl | rfl <;> exact nice_int _ _
theorem nice_wD (p : Int × Int × Int) : Nice 1 (wD p) := nice_list fun d hd => by
  simp at hd
  rcases hd with rfl | rfl | rfl <;> exact nice_int _ _
theorem nice_pL (xs : List (Int × Int)) : Nice 2 (pL xs) := nice_map (fun a => nice_pD a) xs
theorem nice_wL (xs : List (Int × Int × Int)) : Nice 2 (wL xs) := nice_map (fun a => nice_wD a) xs
theorem nice_iLL (xs : List (List Int)) : Nice 2 (.list (xs.map iL)) := nice_map (fun a => nice_iL a) xs
theorem nice_nil (k : Nat) : Nice (k + 1) (.list []) := nice_list fun d hd => by cases hd
theorem nice_two {k : Nat} {a b : PyData} (ha : Nice k a) (hb : Nice k b) : Nice (k + 1) (.list [a, b]) := nice_list fun d hd => by
  simp at hd
  rcases hd with rfl | rfl <;> assumption
theorem nice_three {k : Nat} {a b c : PyData} (ha : Nice k a) (hb : Nice k b) (hc : Nice k c) : Nice (k + 1) (.list [a, b, c]) := nice_list fun d hd => by
  simp at hd
  rcases hd with rfl | rfl | rfl <;> assumption
theorem Nice.shaped {k : Nat} {d : PyData} (h : Nice k d) (l : k ≤ 64) : SeqAt.shaped d = true := by
  unfold SeqAt.shaped
  rw [plain_lay d h.pl, decide_eq_true (Nat.le_trans h.dp l)]
  rfl
theorem Nice.eqv {j k : Nat} {d e : PyData} (h : Nice j d) (g : Nice k e) : (PyData.eqv d e = true ↔ d = e) := eqv_plain d e h.pl g.pl
theorem Nice.refl {j : Nat} {d : PyData} (h : Nice j d) : PyData.eqv d d = true := (h.eqv h).mpr rfl
theorem Nice.eqB {j k : Nat} {d e : PyData} (h : Nice j d) (g : Nice k e) {p : Prop} [Decidable p] (q : d = e ↔ p) : PyData.eqv d e = decide p := by
  rw [Bool.eq_iff_iff, h.eqv g, q, decide_eq_true_eq]
theorem pD_inj {a b : Int × Int} : pD a = pD b ↔ a = b := by
  obtain ⟨a1, a2⟩ := a
  obtain ⟨b1, b2⟩ := b
  simp
theorem wD_inj {a b : Int × Int × Int} : wD a = wD b ↔ a = b := by
  obtain ⟨a1, a2, a3⟩ := a
  obtain ⟨b1, b2, b3⟩ := b
  simp
theorem map_inj {α : Type} {f : α → PyData} (h : ∀ {a b : α}, f a = f b ↔ a = b) {xs ys : List α} : PyData.list (xs.map f) = PyData.list (ys.map f) ↔ xs = ys := by
  rw [PyData.list.injEq]
  constructor
  · intro e
    exact List.map_inj_right (fun a b q => h.mp q) |>.mp e
  · rintro rfl; rfl
theorem iL_inj {xs ys : List Int} : iL xs = iL ys ↔ xs = ys := map_inj (by simp)
theorem pL_inj {xs ys : List (Int × Int)} : pL xs = pL ys ↔ xs = ys := map_inj pD_inj
theorem wL_inj {xs ys : List (Int × Int × Int)} : wL xs = wL ys ↔ xs = ys := map_inj wD_inj
/-- x in a list of data -/
theorem any_eqv {α : Type} {f : α → PyData} {k : Nat} (hf : ∀ a, Nice k (f a)) (h : ∀ {a b : α}, f a = f b ↔ a = b) (xs : List α) (x : α) [DecidableEq α] : ((xs.map f).any fun z => PyData.eqv z (f x)) = decide (x ∈ xs) := by
  rw [Bool.eq_iff_iff, List.any_eq_true, decide_eq_true_eq]
  constructor
  · rintro ⟨d, hd, e⟩
    obtain ⟨a, ha, rfl⟩ := List.mem_map.mp hd
    have := h.mp (((hf a).eqv (hf x)).mp e)
    subst this
    exact ha
  · intro hx
    exact ⟨f x, List.mem_map.mpr ⟨x, hx, rfl⟩, (hf x).refl⟩
/-! lists of rows, copied -/
/-- each thing is a list of plain values -/
def Rows (xs : List PyData) : Prop := ∀ d ∈ xs, ∃ ds, d = .list ds ∧ ∀ x ∈ ds, isSca x = true
theorem rows_map {α : Type} {f : α → PyData} (h : ∀ a, ∃ ds, f a = .list ds ∧ ∀ x ∈ ds, isSca x = true) (xs : List α) : Rows (xs.map f) := fun d hd => by
  obtain ⟨a, _, rfl⟩ := List.mem_map.mp hd
  exact h a
theorem rows_p (xs : List (Int × Int)) : Rows (xs.map pD) := rows_map (fun a => ⟨_, rfl, by simp [isSca]⟩) xs
theorem rows_w (xs : List (Int × Int × Int)) : Rows (xs.map wD) := rows_map (fun a => ⟨_, rfl, by simp [isSca]⟩) xs
theorem rows_i (xs : List (List Int)) : Rows (xs.map iL) := rows_map (fun a => ⟨_, rfl, by simp [isSca]⟩) xs
theorem DdAll.sca {m m' : Mode} {H H' : Hp} : ∀ {vs : List V} {ds : List PyData}, DdAll m H vs ds → (∀ d ∈ ds, isSca d = true) → DdAll m' H' vs ds
  | _, _, .nil, _ => .nil
  | _, _, .cons p q, h => .cons (p.sca (h _ (by simp))) (DdAll.sca q fun d hd => h d (by simp [hd]))
section
variable {K : PySem.W.Frag} {c : Cq K} {b b0 : Bool} {ρ : Rho} {te tl : TE} {ds : List PyData} {j : Nat}
/-- list(xs), plain values -/
theorem el_listS (h : EvR c te ρ (.list ds)) (hs : ∀ d ∈ ds, isSca d = true) : EvL c b (tCB (fun xs H Q => ∃ p ys, xs = [V.ref p] ∧ (SqL K H p ys ∨ SqT K H p ys) ∧ ∀ l, H l = none → Q (.ref l) (upd H l (.lst ys))) (tCons te tNil)) ρ ds := fun O σ F H S Q k =>
  h O σ F H S _ fun v F1 H1 e1 h1 S1 d1 => by
    cases d1 with
    | lst r q => exact ⟨_, _, rfl, .inl (dd_sq (fun _ _ h => h) (Evl.Ex.refl _) r), lay_list k e1 h1 S1 (q.sca hs)⟩
/-- [list(x) for x in xs] -/
theorem el_copy {vs : List Nat} (h : EvE c b0 tl ρ ds) (hr : Rows ds) (hz : ds.length ≤ 40000) (hv : vs = [j]) (hj : j < ρ.length) : EvL c b (tLc (iList K tl) (gName j) tYes (tCB (fun xs H Q => ∃ p ys, xs = [V.ref p] ∧ (SqL K H p ys ∨ SqT K H p ys) ∧ ∀ l, H l = none → Q (.ref l) (upd H l (.lst ys))) (tCons (tVar j) tNil)) vs) ρ ds := by
  subst hv
  have e : ((ds.filter fun _ => true).map id) = ds := by simp
  have e2 : ds.map id = ds := by simp
  refine EvL.is (el_lc (b0 := b0) (xs := ds) (enc := id) (js := [j]) (fun _ => true) id (by rw [e2]; exact h) hz (by simp) fun d hd => ⟨_, tg_name, eb_yes, fun _ => ?_⟩) e
  obtain ⟨es, rfl, hs⟩ := hr d hd
  refine EvL.ev (el_listS (ev_var (b := b0) ?_).r hs)
  unfold wipeR
  rw [List.getElem?_set_self (by unfold wipeR; simpa using hj)]
  rfl
end
theorem atI_some {α : Type} {xs : List α} {i : Int} (h0 : 0 ≤ i) (h1 : i < (xs.length : Int)) : ∃ x, x ∈ xs ∧ atI xs i = some x := by
  have h : i.toNat < xs.length := by omega
  exact ⟨xs[i.toNat], List.getElem_mem h, atI_natI h0 (by simp [h])⟩
theorem ixN_of {n : Nat} {i : Int} (h0 : 0 ≤ i) (h1 : i < (n : Int)) : ixN n i = some i.toNat := by
  unfold ixN
  rw [if_pos h0, if_pos h1]
end DL

end
section
set_option maxRecDepth 100000
set_option maxHeartbeats 2000000
/-! the hand layer's rules with the written part told by its own name (a comprehension's block has it too) -/
namespace DL
open PySem PySem.Spec PyProof.Rows L2
section
variable {X : Cx} (K : PySem.W.Frag)
theorem k_ix_list (h : X.K = K := by rfl) : IxR X (rIxL K) := h ▸ ix_list
theorem k_ix_tup (h : X.K = K := by rfl) : IxR X (rIxT K) := h ▸ ix_tup
theorem k_sl_list (h : X.K = K := by rfl) : SlR X (rSlL K) := h ▸ sl_list
theorem k_sl_tup (h : X.K = K := by rfl) : SlR X (rSlT K) := h ▸ sl_tup
theorem k_in_seq (h : X.K = K := by rfl) : OpR X (compareOp .In) (rIn K false) := h ▸ op_in_seq
theorem k_nin_seq (h : X.K = K := by rfl) : OpR X (compareOp .NotIn) (rIn K true) := h ▸ op_notIn_seq
theorem k_eqD (hu : X.A.units + 64 < cLine) (h : X.K = K := by rfl) : OpR X (compareOp .Eq) (rEqD K) := h ▸ op_eqD hu
theorem k_neD (hu : X.A.units + 64 < cLine) (h : X.K = K := by rfl) : OpR X (compareOp .NotEq) (rNeD K) := h ▸ op_neD hu
theorem k_inD (hu : X.A.units + 65 < cLine) (h : X.K = K := by rfl) : OpR X (compareOp .In) (rInD K) := h ▸ op_inD hu
theorem k_ninD (hu : X.A.units + 65 < cLine) (h : X.K = K := by rfl) : OpR X (compareOp .NotIn) (rNotInD K) := h ▸ op_notInD hu
theorem k_ltT (hu : X.A.units < cLine) (h : X.K = K := by rfl) : OpR X (compareOp .Lt) (rLtT K) := h ▸ op_ltT hu
theorem k_len_seq (h : X.K = K := by rfl) : CallR X (.builtin "len") (fun xs H Q => ∃ p ys, xs = [V.ref p] ∧ (SqL K H p ys ∨ SqT K H p ys) ∧ Q (.int ys.length) H) := h ▸ call_len_seq
theorem k_list_of (h : X.K = K := by rfl) : CallR X (.type "list") (fun xs H Q => ∃ p ys, xs = [V.ref p] ∧ (SqL K H p ys ∨ SqT K H p ys) ∧ ∀ l, H l = none → Q (.ref l) (upd H l (.lst ys))) := h ▸ call_list_of
theorem k_sum (hc : X.calm = true) (h : X.K = K := by rfl) : CallR X (.builtin "sum") (rSum K) := h ▸ cr_sum hc
theorem k_max (hc : X.calm = true) (h : X.K = K := by rfl) : CallR X (.builtin "max") (rMax K) := h ▸ cr_max hc
theorem k_min (hc : X.calm = true) (h : X.K = K := by rfl) : CallR X (.builtin "min") (rMin K) := h ▸ cr_min hc
theorem k_all (hc : X.calm = true) (h : X.K = K := by rfl) : CallR X (.builtin "all") (rAll K) := h ▸ cr_all hc
theorem k_any (hc : X.calm = true) (h : X.K = K := by rfl) : CallR X (.builtin "any") (rAny K) := h ▸ cr_any hc
theorem k_sorted (h : X.K = K := by rfl) : CallR X (.builtin "sorted") (rSorted K) := h ▸ cr_sorted
theorem k_isi (h : X.K = K := by rfl) : CallR X (.builtin "isinstance") (rIsi K) := h ▸ call_isi
theorem k_isiT (h : X.K = K := by rfl) : CallR X (.builtin "isinstance") (rIsiT K) := h ▸ call_isiT
theorem k_maxD (hc : X.calm = true) (h : X.K = K := by rfl) : CallRK X (.builtin "max") ["default"] (rMaxD K) := h ▸ cr_maxD hc
theorem k_minD (hc : X.calm = true) (h : X.K = K := by rfl) : CallRK X (.builtin "min") ["default"] (rMinD K) := h ▸ cr_minD hc
theorem k_pget (h : X.K = K := by rfl) : PGet X (rIxL K) := h ▸ pget_list
theorem k_index (h : X.K = K := by rfl) : MtR X "list.index" (rIndex K) := h ▸ mt_index
theorem k_pg_unl {es : List Expr} {k : Nat} {t : TGs} {n : Nat} {pos : Pos} (hc : X.calm = true) (h : PGs X es t) (hK : X.K = K := by rfl)
    (hn : (assignEach es X.env).length = n := by rfl) (hst : (assignEach es X.env).findIdx? (·.1) = none := by rfl) : PG X (.Tuple es k pos) (gUnl K n t) := hK ▸ pg_unl hc h hn hst
theorem k_pg_tup {es : List Expr} {k : Nat} {t : TGs} {n : Nat} {pos : Pos} (hc : X.calm = true) (h : PGs X es t) (hK : X.K = K := by rfl)
    (hn : (assignEach es X.env).length = n := by rfl) (hst : (assignEach es X.env).findIdx? (·.1) = none := by rfl) : PG X (.Tuple es k pos) (gTup K n t) := hK ▸ pg_tup hc h hn hst
theorem k_pi_list {tg l : Expr} {tl : TE} (hl : PE X l tl) (hK : X.K = K := by rfl) : PI X tg l (iList K tl) := hK ▸ pi_list hl
theorem k_pi_tup {tg l : Expr} {tl : TE} (hl : PE X l tl) (hK : X.K = K := by rfl) : PI X tg l (iTup K tl) := hK ▸ pi_tup hl
theorem k_revL {e : Expr} {te : TE} {k : Nat} {p1 p2 p3 pos : Pos} (he : PE X e te) (hK : X.K = K := by rfl) : PE X (.Subscript e (.Slice none none (some (.UnaryOp .USub (.Constant (.int 1) k p1) p2)) p3) pos) (tRevL K te) := hK ▸ pe_revL he
theorem k_bm {T id : String} {name : Str} {apos cpos : Pos} {o e : Expr} {es : List Expr} {r : V → List V → Hp → VK → Prop} {to : TE} {t : TA} (pa : PlainAttrs T) (slot : Slot T name id) (hty : typeOf (.builtin id) = pure (.type "method_descriptor")) (hm : MtR X id r) (ho : PE X o to) (ha : PA X (e :: es) t)
    (hK : X.K = K := by rfl) (hbase : attributeBase o name X.env (eval o X.env) = eval o X.env := by rfl)
    (hfew : ((backTo cpos (starEach (e :: es) X.env)).all (fun x => !x.1) && (backToKw cpos (keywordEach [] X.env)).all (fun x => x.1.isSome)
      && decide ((e :: es).length + ([] : List Keyword).length + (if ([] : List Keyword).isEmpty then 0 else 1) < 30)) = true := by rfl)
    (hline : (apos.endLine == cpos.line) = true := by rfl) (hs : starEach (e :: es) X.env = (false, eval e X.env) :: starEach es X.env := by rfl) (hplain : (backTo cpos (starEach es X.env)).any (·.1) = false := by rfl) :
    PE X (.Call (.Attribute o name apos) (e :: es) [] cpos) (tBM K T r to t) := hK ▸ pe_bm pa slot hty hm ho ha hbase hfew hline hs hplain
/-- sep.join(xs) -/
def rJoin : V → List V → Hp → VK → Prop := fun x xs H Q => ∃ a p, ∃ ys : List Str, x = .str a ∧ xs = [.ref p] ∧ (SqL K H p (ys.map V.str) ∨ SqT K H p (ys.map V.str)) ∧ (ys.map (·.length)).sum + ys.length * a.length ≤ 16777216 ∧ Q (.str (Txt.join a ys)) H
theorem k_join {o e : Expr} {to te : TE} {apos pos : Pos} (ho : PE X o to) (he : PE X e te) (hK : X.K = K := by rfl) (hs : starEach [e] X.env = [(false, eval e X.env)] := by rfl) (hbase : attributeBase o "join" X.env (eval o X.env) = eval o X.env := by rfl) (hline : (apos.endLine == pos.line) = true := by rfl) :
    PE X (.Call (.Attribute o "join" apos) [e] [] pos) (tM1 (rJoin K) to te) := by
  subst hK
  exact pe_join ho he hs hbase hline
end
theorem lc_all {α : Type} (xs : List α) : (xs.filter fun _ => true) = xs := by
  induction xs with
  | nil => rfl
  | cons a r ih => simp
theorem lc_const {α : Type} (n : Nat) (x : α) : ((List.range n).filter fun _ => true).map (fun _ => x) = List.replicate n x := by
  rw [lc_all]
  exact List.ext_getElem (by simp) (by simp)
end DL

end
section
set_option maxRecDepth 100000
set_option maxHeartbeats 2000000
/-! what evaluates to some data of a kind: calls whose results are known by what holds of them -/
namespace DL
open PySem PySem.Spec PyProof.Rows L2
def EvN {K : PySem.W.Frag} (c : Cq K) (b : Bool) (te : TE) (ρ : Rho) (P : PyData → Prop) : Prop := ∀ (O : Addr → Prop) (σ : St) (F H : Hp), Sim c O ρ σ F H → ∀ Q : VK, (∀ d v F' H', P d → Ex F F' → Ex H H' → Sim c O ρ σ F' H' → Dd (c.pw b) F' v d → Q v H') → te σ H Q
def EvAN {K : PySem.W.Frag} (c : Cq K) (ta : TA) (ρ : Rho) (P : List PyData → Prop) : Prop := ∀ (O : Addr → Prop) (σ : St) (F H : Hp), Sim c O ρ σ F H → ∀ Q : List V → Hp → Prop, (∀ ds vs F' H', P ds → Ex F F' → Ex H H' → Sim c O ρ σ F' H' → DdAll (T1 K) H' vs ds → Q vs H') → ta σ H Q
def EvFN {K : PySem.W.Frag} (c : Cq K) (b : Bool) (ta : TA) (ρ : Rho) (P : List PyData → Prop) : Prop := ∀ (O : Addr → Prop) (σ : St) (F H : Hp), Sim c O ρ σ F H → ∀ Q : List V → Hp → Prop, (∀ ds vs F' H', P ds → Ex F F' → Ex H H' → Sim c O ρ σ F' H' → DdAll (c.pw b) F' vs ds → Q vs H') → ta σ H Q
def EvLN {K : PySem.W.Frag} (c : Cq K) (b : Bool) (te : TE) (ρ : Rho) (P : List PyData → Prop) : Prop := ∀ (O : Addr → Prop) (σ : St) (F H : Hp), Sim c O ρ σ F H → ∀ Q : VK,
  (∀ ds p xs F' H', P ds → Ex F F' → Ex H H' → Sim c O ρ σ F' H' → H p = none → F' p = none → H' p = some (.lst xs) → NotOwn ρ σ p → DdAll (c.pw b) F' xs ds → Q (.ref p) H') → te σ H Q
section
variable {K : PySem.W.Frag} {c : Cq K} {B : Hp} {b b' : Bool} {ρ ρ' : Rho} {D : Ends} {t u w tz : TS} {te ta to ti tl : TE} {tt : TT} {d : PyData} {ds es : List PyData} {i j : Nat} {g : TG} {js : List Nat} {tr : TA} {P : PyData → Prop} {PA : List PyData → Prop}
theorem Ev.n (h : Ev c b te ρ d) (p : P d) : EvN c b te ρ P := fun O σ F H S Q k => h O σ F H S Q fun v F' H' e1 e2 S' dd => k d v F' H' p e1 e2 S' dd
theorem EvA.n (h : EvA c tr ρ ds) (p : PA ds) : EvAN c tr ρ PA := fun O σ F H S Q k => h O σ F H S Q fun v F' H' e1 e2 S' dd => k ds v F' H' p e1 e2 S' dd
theorem EvAF.n (h : EvAF c b tr ρ ds) (p : PA ds) : EvFN c b tr ρ PA := fun O σ F H S Q k => h O σ F H S Q fun v F' H' e1 e2 S' dd => k ds v F' H' p e1 e2 S' dd
theorem EvN.mono {P' : PyData → Prop} (h : EvN c b te ρ P) (p : ∀ d, P d → P' d) : EvN c b te ρ P' := fun O σ F H S Q k => h O σ F H S Q fun d v F' H' q e1 e2 S' dd => k d v F' H' (p d q) e1 e2 S' dd
theorem EvN.weak (h : EvN c true te ρ P) : EvN c false te ρ P := fun O σ F H S Q k => h O σ F H S Q fun d v F' H' q e1 e2 S' dd => k d v F' H' q e1 e2 S' (dd.up Cq.more (Evl.Ex.refl _))
theorem EvAN.mono {P' : List PyData → Prop} (h : EvAN c tr ρ PA) (p : ∀ d, PA d → P' d) : EvAN c tr ρ P' := fun O σ F H S Q k => h O σ F H S Q fun d v F' H' q e1 e2 S' dd => k d v F' H' (p d q) e1 e2 S' dd
/-- args: a first one known by what holds of it -/
theorem ea_consN {P' : List PyData → Prop} (h : EvN c b te ρ P) (hr : ∀ d, P d → EvAN c tr ρ fun ds => P' (d :: ds)) : EvAN c (tCons te tr) ρ P' := fun O σ F H S Q k =>
  h O σ F H S _ fun d v F1 H1 p e1 h1 S1 d1 => hr d p O σ F1 H1 S1 _ fun ds vs F2 H2 p2 e2 h2 S2 d2 => k _ _ F2 H2 p2 (e1.trans e2) (h1.trans h2) S2 (.cons ((d1.ex e2).all Cq.kl S2.ff) d2)
theorem ea_consD {P' : List PyData → Prop} (h : EvR c te ρ d) (hr : EvAN c tr ρ fun ds => P' (d :: ds)) : EvAN c (tCons te tr) ρ P' := fun O σ F H S Q k =>
  h O σ F H S _ fun v F1 H1 e1 h1 S1 d1 => hr O σ F1 H1 S1 _ fun ds vs F2 H2 p2 e2 h2 S2 d2 => k _ _ F2 H2 p2 (e1.trans e2) (h1.trans h2) S2 (.cons (d1.ex h2) d2)
theorem ef_consN {P' : List PyData → Prop} (h : EvN c b te ρ P) (hr : ∀ d, P d → EvFN c b tr ρ fun ds => P' (d :: ds)) : EvFN c b (tCons te tr) ρ P' := fun O σ F H S Q k =>
  h O σ F H S _ fun d v F1 H1 p e1 h1 S1 d1 => hr d p O σ F1 H1 S1 _ fun ds vs F2 H2 p2 e2 h2 S2 d2 => k _ _ F2 H2 p2 (e1.trans e2) (h1.trans h2) S2 (.cons (d1.ex e2) d2)
theorem ef_consD {P' : List PyData → Prop} (h : Ev c b te ρ d) (hr : EvFN c b tr ρ fun ds => P' (d :: ds)) : EvFN c b (tCons te tr) ρ P' := fun O σ F H S Q k =>
  h O σ F H S _ fun v F1 H1 e1 h1 S1 d1 => hr O σ F1 H1 S1 _ fun ds vs F2 H2 p2 e2 h2 S2 d2 => k _ _ F2 H2 p2 (e1.trans e2) (h1.trans h2) S2 (.cons (d1.ex e2) d2)
theorem el_lstN (h : EvFN c b tr ρ PA) (hl : ∀ ds, PA ds → ds.length ≤ 100000) : EvLN c b (tLst tr) ρ PA := fun O σ F H S Q k => h O σ F H S _ fun ds vs F1 H1 p1 e1 h1 S1 d1 =>
  ⟨Evl.sz_of (by rw [d1.length]; exact hl _ p1), fun p hp => k ds p vs F1 _ p1 e1 (h1.trans (Evl.Ex.new hp)) (S1.lay hp) (Evl.fresh_back h1 hp) (S1.fresh hp) upd_same (S1.notOwn hp) d1⟩
theorem EvL.n (h : EvL c b te ρ ds) (p : PA ds) : EvLN c b te ρ PA := fun O σ F H S Q k => h O σ F H S Q fun a xs F' H' e1 e2 S' hp fp at_ no dd => k ds a xs F' H' p e1 e2 S' hp fp at_ no dd
theorem EvLN.mono {P' : List PyData → Prop} (h : EvLN c b te ρ PA) (p : ∀ d, PA d → P' d) : EvLN c b te ρ P' := fun O σ F H S Q k => h O σ F H S Q fun ds a xs F' H' p1 e1 e2 S' hp fp at_ no dd => k ds a xs F' H' (p ds p1) e1 e2 S' hp fp at_ no dd
/-- a new list, frozen -/
theorem EvLN.ev (h : EvLN c b te ρ PA) : EvN c b te ρ (fun d => ∃ ds, d = .list ds ∧ PA ds) := fun O σ F H S Q k => h O σ F H S Q fun ds p xs F' H' p1 e1 e2 S' hp fp h1 ow dd => by
  have n0 : c.H0 p = none := Evl.fresh_back S.bb hp
  have ef : Ex F' (upd F' p (.lst xs)) := Evl.Ex.new fp
  have ff : Ex (upd F' p (.lst xs)) H' := fun a o e => by
    by_cases z : a = p
    · subst z; rw [upd_same] at e; cases e; exact h1
    · rw [upd_ne z] at e; exact S'.ff a o e
  refine k _ _ (upd F' p (.lst xs)) H' ⟨ds, rfl, p1⟩ (e1.trans ef) e2 ⟨S'.base.trans ef, ff, fun a h => ⟨by rw [upd_ne (fun z => (S.prot a h).2 (by rw [z]; exact hp))]; exact (S'.prot a h).1, (S'.prot a h).2⟩, S'.len, fun i s o hi ho => ?_, S'.apart⟩ (.lst (.inl ⟨Cq.any n0, .inl upd_same⟩) (dd.ex ef))
  exact (S'.sl i s o hi ho).move ef fun a ha => ⟨by rw [upd_ne (fun z => ow i s o hi ho (by rw [← z]; exact ha))]; exact ((S'.sl i s o hi ho).owned ha).1, rfl⟩
/-! statements -/
theorem go_valN (h : EvN c b te ρ P) (k : ∀ d, P d → Nx c B D (ρ.set i (.val b d))) : Go c B (tAsg te (gName i)) D ρ := fun O σ F H e S =>
  h O σ F H S _ fun d v F1 H1 p e1 h1 S1 d1 => tg_name O σ F1 H1 v S1 d1 _ fun σ' _ _ S2 => k d p O σ' F1 H1 (e.trans e1) S2
theorem q_valN (h : EvN c b te ρ P) (k : ∀ d, P d → Go c B tz D (ρ.set i (.val b d))) : Go c B (tSeq (tAsg te (gName i)) tz) D ρ := go_valN (D := { D with nx := tz D }) h k
theorem go_tgN (h : EvN c b te ρ P) (k : ∀ d, P d → ∃ js ρ', TgOk c b g js ρ d ρ' ∧ Nx c B D ρ') : Go c B (tAsg te g) D ρ := fun O σ F H e S =>
  h O σ F H S _ fun d v F1 H1 p e1 h1 S1 d1 => by
    obtain ⟨js, ρ', tg, k⟩ := k d p
    exact tg O σ F1 H1 v S1 d1 _ fun σ' _ _ S2 => k O σ' F1 H1 (e.trans e1) S2
theorem q_tgN (h : EvN c b te ρ P) (k : ∀ d, P d → ∃ js ρ', TgOk c b g js ρ d ρ' ∧ Go c B tz D ρ') : Go c B (tSeq (tAsg te g) tz) D ρ := go_tgN (D := { D with nx := tz D }) h k
theorem go_ownN (h : EvLN c b te ρ PA) (k : ∀ ds, PA ds → Nx c B D (ρ.set i (.own b ds))) : Go c B (tAsg te (gName i)) D ρ := fun O σ F H e S =>
  h O σ F H S _ fun ds p xs F1 H1 p1 e1 h1 S1 hp fp at_ no d1 => k ds p1 O _ F1 H1 (e.trans e1) (S1.setOwn i fp at_ no d1)
theorem q_ownN (h : EvLN c b te ρ PA) (k : ∀ ds, PA ds → Go c B tz D (ρ.set i (.own b ds))) : Go c B (tSeq (tAsg te (gName i)) tz) D ρ := go_ownN (D := { D with nx := tz D }) h k
theorem go_retEN (h : EvN c true te ρ P) (k : ∀ d, P d → Rt c D.rt d) : Go c B (tRet te) D ρ := fun O σ F H e S => h O σ F H S _ fun d v F1 H1 p e1 h1 S1 d1 => k d p v H1 S1.bb (d1.ex S1.ff)
theorem go_insertN {k0 : Int} (h : ρ[i]? = some (.own b ds)) (hi : EvR c ti ρ (.int k0)) (hd : EvN c b te ρ P) (hz : ds.length < 100000) (h0 : 0 ≤ k0 ∧ k0 < 2 ^ 63) (k : ∀ d, P d → Nx c B D (ρ.set i (.own b (ds.take k0.toNat ++ [d] ++ ds.drop k0.toNat)))) :
    Go c B (tDrop (tBM K "list" rInsert (tVar i) (tCons ti (tCons te tNil)))) D ρ := fun O σ F H e S => by
  obtain ⟨o, ho, a, xs, eo, f0, h1, dd⟩ := S.get h
  subst eo
  refine ⟨_, ho, .inl ⟨rfl, _, .inl (.inl h1)⟩, hi O σ F H S _ fun v F1 H1 e1 g1 S1 d1 => hd O σ F1 H1 S1 _ fun d v2 F2 H2 p e2 g2 S2 d2 => ?_⟩
  cases d1
  have h2 := g2 _ _ (g1 _ _ h1)
  have dd2 := dd.ex (e1.trans e2)
  exact ⟨a, xs, k0, v2, rfl, rfl, h2, Evl.sz_lt (by rw [dd.length]; exact hz), h0.1, h0.2, k d p O σ F2 _ (e.trans (e1.trans e2)) (S2.write h ho h2 (((dd2.take _).append (.one d2)).append (dd2.drop _)))⟩
theorem q_insertN {k0 : Int} (h : ρ[i]? = some (.own b ds)) (hi : EvR c ti ρ (.int k0)) (hd : EvN c b te ρ P) (hz : ds.length < 100000) (h0 : 0 ≤ k0 ∧ k0 < 2 ^ 63) (k : ∀ d, P d → Go c B tz D (ρ.set i (.own b (ds.take k0.toNat ++ [d] ++ ds.drop k0.toNat)))) :
    Go c B (tSeq (tDrop (tBM K "list" rInsert (tVar i) (tCons ti (tCons te tNil)))) tz) D ρ := go_insertN (D := { D with nx := tz D }) h hi hd hz h0 k
theorem go_appN (h : ρ[i]? = some (.own b ds)) (hd : EvN c b te ρ P) (hz : ds.length < 100000) (k : ∀ d, P d → Nx c B D (ρ.set i (.own b (ds ++ [d])))) : Go c B (tDrop (tBM K "list" rAppend (tVar i) (tCons te tNil))) D ρ := fun O σ F H e S => by
  obtain ⟨o, ho, a, xs, eo, f0, h1, dd⟩ := S.get h
  subst eo
  refine ⟨_, ho, .inl ⟨rfl, _, .inl (.inl h1)⟩, hd O σ F H S _ fun d v F1 H1 p e1 g1 S1 d1 => ?_⟩
  have h2 := g1 _ _ h1
  exact ⟨a, xs, v, rfl, rfl, h2, Evl.sz_lt (by rw [dd.length]; exact hz), k d p O σ F1 _ (e.trans e1) (S1.write h ho h2 ((dd.ex e1).append (.one d1)))⟩
theorem q_appN (h : ρ[i]? = some (.own b ds)) (hd : EvN c b te ρ P) (hz : ds.length < 100000) (k : ∀ d, P d → Go c B tz D (ρ.set i (.own b (ds ++ [d])))) : Go c B (tSeq (tDrop (tBM K "list" rAppend (tVar i) (tCons te tNil))) tz) D ρ := go_appN (D := { D with nx := tz D }) h hd hz k
theorem go_forN {α : Type} {enc : α → PyData} {tb : TS} (PX : List α → Prop) (h : EvN c b tl ρ (fun d => ∃ xs : List α, d = .list (xs.map enc) ∧ PX xs))
    (hx : ∀ xs, PX xs → ∃ I : Nat → Rho → Prop, I 0 ρ ∧
      (∀ (B' : Hp) (i : Nat) (x : α) (ρ1 : Rho), xs[i]? = some x → I i ρ1 → ∃ js ρ2, TgOk c b g js ρ1 (enc x) ρ2 ∧ Go c B' tb { D with nx := Pst c B' (I (i + 1)), ct := Pst c B' (I (i + 1)), bk := D.nx } ρ2) ∧
      (∀ ρ1, I xs.length ρ1 → Nx c B D ρ1)) : Go c B (tFor (iList K tl) g tb) D ρ := fun O σ F H e S => by
  refine h O σ F H S _ fun d v F1 H1 p e1 h1 S1 d1 => ?_
  obtain ⟨xs, rfl, px⟩ := p
  obtain ⟨I, h0, hs, hd⟩ := hx xs px
  have hv : ∃ a, v = .ref a := by cases d1; exact ⟨_, rfl⟩
  cases d1 with
  | lst r dd =>
    rename_i a xv
    refine ⟨a, rfl, ⟨xv, dd_sq Cq.kl S1.ff r⟩, ?_⟩
    have lenx : xv.length = xs.length := by rw [dd.length, List.length_map]
    refine for_list (K := K) (a := a) (xs := xv) (fun i σ' H' => Pst c F1 (I i) σ' H') ⟨O, F1, ρ, Evl.Ex.refl _, S1, h0⟩ ?_ ?_ ?_
    · rintro i σ' H' hi ⟨O', F', ρ1, e', S', _⟩
      exact dd_sq Cq.kl (e'.trans S'.ff) r
    · rintro i x σ' H' hx ⟨O', F', ρ1, e', S', iv⟩
      obtain ⟨d, hd', dx⟩ := dd.getV hx
      rw [List.getElem?_map] at hd'
      cases hu : xs[i]? with
      | none => rw [hu] at hd'; cases hd'
      | some uu =>
        rw [hu] at hd'
        cases hd'
        obtain ⟨js, ρ2, tg, go⟩ := hs F1 i uu ρ1 hu iv
        exact tg O' σ' F' H' x S' (dx.ex e') _ fun σ2 _ _ S2 => go O' σ2 F' H' e' S2
    · rintro σ' H' ⟨O', F', ρ1, e', S', iv⟩
      rw [lenx] at iv
      exact hd ρ1 iv O' σ' F' H' (e.trans (e1.trans e')) S'
theorem q_forN {α : Type} {enc : α → PyData} {tb : TS} (PX : List α → Prop) (h : EvN c b tl ρ (fun d => ∃ xs : List α, d = .list (xs.map enc) ∧ PX xs))
    (hx : ∀ xs, PX xs → ∃ I : Nat → Rho → Prop, I 0 ρ ∧
      (∀ (B' : Hp) (i : Nat) (x : α) (ρ1 : Rho), xs[i]? = some x → I i ρ1 → ∃ js ρ2, TgOk c b g js ρ1 (enc x) ρ2 ∧ Go c B' tb { D with nx := Pst c B' (I (i + 1)), ct := Pst c B' (I (i + 1)), bk := tz D } ρ2) ∧
      (∀ ρ1, I xs.length ρ1 → Go c B tz D ρ1)) : Go c B (tSeq (tFor (iList K tl) g tb) tz) D ρ := go_forN (D := { D with nx := tz D }) PX h hx
end
/-! promises -/
/-- data made anew of which R holds -/
def spN (K : PySem.W.Frag) (P : List PyData → Prop) (R : List PyData → PyData → Prop) : Sp := fun vs H Q _ => ∃ ds, DdAll (T1 K) H vs ds ∧ P ds ∧ ∀ r v H', R ds r → Ex H H' → Dd (only fun a => H a = none) H' v r → Q v H'
/-- a list that the caller may change -/
def spM (K : PySem.W.Frag) (P : List PyData → Prop) (R : List PyData → List PyData → Prop) : Sp := fun vs H Q _ => ∃ ds, DdAll (T1 K) H vs ds ∧ P ds ∧ ∀ r p xs H', R ds r → Ex H H' → H p = none → H' p = some (.lst xs) → DdAll (only fun a => H a = none ∧ a ≠ p) H' xs r → Q (.ref p) H'
section
variable {K : PySem.W.Frag} {c : Cq K} {b b' : Bool} {ρ : Rho} {ta : TA} {ds : List PyData} {r : PyData} {PP : List PyData → Prop} {R : List PyData → PyData → Prop} {RL : List PyData → List PyData → Prop} {E : XK}
theorem ev_callN (h : EvA c ta ρ ds) (hP : PP ds) : EvN c b (tCall (spN K PP R) [] E ta) ρ (R ds) := fun O σ F H S Q k => h O σ F H S _ fun vs F1 H1 e1 h1 S1 d1 => by
  refine ⟨ds, by rw [List.append_nil]; exact d1, hP, fun r v H' hR e2 dd => ?_⟩
  exact k r v _ H' hR (e1.trans (addF_ex S1.ff)) (h1.trans e2) (S1.add e2) (dd.add S1 b)
theorem ev_callNN (h : EvAN c ta ρ PP) : EvN c b (tCall (spN K PP R) [] E ta) ρ (fun r => ∃ ds, PP ds ∧ R ds r) := fun O σ F H S Q k => h O σ F H S _ fun ds vs F1 H1 hP e1 h1 S1 d1 => by
  refine ⟨ds, by rw [List.append_nil]; exact d1, hP, fun r v H' hR e2 dd => ?_⟩
  exact k r v _ H' ⟨ds, hP, hR⟩ (e1.trans (addF_ex S1.ff)) (h1.trans e2) (S1.add e2) (dd.add S1 b)
theorem el_callN' {PA : List PyData → Prop} (h : EvAN c ta ρ PA) (hP : ∀ ds, PA ds → PP ds) : EvLN c b (tCall (spM K PP RL) [] E ta) ρ (fun rl => ∃ ds, PA ds ∧ RL ds rl) := fun O σ F H S Q k => h O σ F H S _ fun ds vs F1 H1 pa e1 h1 S1 d1 => by
  refine ⟨ds, by rw [List.append_nil]; exact d1, hP ds pa, fun rl p xs H' hR e2 hp at_ dd => ?_⟩
  have f1 : F1 p = none := S1.fresh hp
  let F2 : Hp := fun a => if a = p then none else addF F1 H1 H' a
  have ef : Ex F1 F2 := fun a o q => by
    show (if a = p then none else addF F1 H1 H' a) = some o
    rw [if_neg (fun z => by rw [z, f1] at q; cases q)]
    exact addF_ex S1.ff a o q
  have ff : Ex F2 H' := fun a o q => by
    have q' : (if a = p then none else addF F1 H1 H' a) = some o := q
    split at q'
    · cases q'
    · exact addF_sub S1.ff e2 a o q'
  have S2 : Sim c O ρ σ F2 H' := S1.grow ef e2 (fun a hn f0 => by
    show (if a = p then none else addF F1 H1 H' a) = none
    split
    · rfl
    · rw [addF_old hn]; exact f0) ff
  refine k rl p xs F2 H' ⟨ds, pa, hR⟩ (e1.trans ef) (h1.trans e2) S2 (Evl.fresh_back h1 hp) (if_pos rfl) at_ (S.notOwn (Evl.fresh_back h1 hp)) ?_
  refine dd.mono (fun a u (pa : H1 a = none ∧ a ≠ p) ra => ⟨Cq.any (Evl.fresh_back S1.bb pa.1), ?_⟩) fun _ _ (h : False) => h.elim
  have z : F2 a = addF F1 H1 H' a := if_neg pa.2
  rcases rd_add (F := F1) pa.1 ra with q | ⟨o, q⟩
  · exact .inl (z.trans q)
  · exact .inr ⟨o, z.trans q⟩
theorem el_callN (h : EvA c ta ρ ds) (hP : PP ds) : EvLN c b (tCall (spM K PP RL) [] E ta) ρ (RL ds) :=
  (el_callN' (PA := fun x => x = ds) (h.n rfl) fun _ e => e ▸ hP).mono fun rl ⟨_, e, h⟩ => e ▸ h
theorem el_callNN (h : EvAN c ta ρ PP) : EvLN c b (tCall (spM K PP RL) [] E ta) ρ (fun rl => ∃ ds, PP ds ∧ RL ds rl) := el_callN' h fun _ h => h
theorem enterN {N : List Str} {t : TS} {vs : List V} {H : Hp} {Q : VK} (h : spN K PP R vs H Q E) (hN : ∀ ds, PP ds → ds.length ≤ N.length)
    (body : ∀ (c : Cq K) ds, PP ds → (∀ r, R ds r → Rt c Q r) → Go c c.H0 t { nx := fun _ H' => Q .non H', rt := Q } (ds.map (Sl.val false) ++ List.replicate (N.length - ds.length) Sl.no)) : t { nx := fun _ H' => Q .non H', rt := Q } (L2.start N vs) H := by
  obtain ⟨ds, hd, hP, k⟩ := h
  exact body ⟨H, fun a => H a = none, fun _ h => h⟩ ds hP (fun r hR v H' e dd => k r v H' hR e dd) _ _ H H (Evl.Ex.refl _) (enter_sim hd (by rw [hd.length]; exact hN _ hP))
theorem enterM {N : List Str} {t : TS} {vs : List V} {H : Hp} {Q : VK} (h : spM K PP RL vs H Q E) (hN : ∀ ds, PP ds → ds.length ≤ N.length)
    (body : ∀ (c : Cq K) ds, (∀ a, c.NW a → c.H0 a = none) → PP ds → (∀ r, RL ds r → RtL c Q r) → Go c c.H0 t { nx := fun _ H' => Q .non H', rt := Q } (ds.map (Sl.val false) ++ List.replicate (N.length - ds.length) Sl.no)) : t { nx := fun _ H' => Q .non H', rt := Q } (L2.start N vs) H := by
  obtain ⟨ds, hd, hP, k⟩ := h
  exact body ⟨H, fun a => H a = none, fun _ h => h⟩ ds (fun _ h => h) hP (fun r hR p xs H' e hp at_ dd => k r p xs H' hR e hp at_ dd) _ _ H H (Evl.Ex.refl _) (enter_sim hd (by rw [hd.length]; exact hN _ hP))
end
section
variable {P : Program} {w : World} {K : PySem.W.Frag} {mg : Str → Option Value} {base : Heap} {x : Str} {st : Stmt} {N ps : List Str} {k : Nat} {PP : List PyData → Prop}
theorem cl_N {R : List PyData → PyData → Prop} (D : Dfn K mg x st ps) (S : FnScope N ps (defScope st)) (hlen : ∀ ds, PP ds → ds.length = ps.length)
    (hbody : ∀ (f : Addr) (cdv : Value) (A : Around) (outer : List Env) (s : Shared) (H : Hp) (E : XK), Room k (A.deeper (envOfC x (defScope st) s.heap.objs.size f cdv)) →
      ∃ t, PSs (cxOf CX0 P w K mg base N x (defScope st) f cdv A outer s H E).nox (defBody st) t ∧ ∀ (Q : VK) (c : Cq K) ds, PP ds → (∀ r, R ds r → Rt c Q r) → Go c c.H0 t { nx := fun _ H' => Q .non H', rt := Q } (ds.map (Sl.val false) ++ List.replicate (N.length - ds.length) Sl.no)) :
    Cl P w K mg base CX0 (k + 1) x (spN K PP R) := by
  obtain ⟨f, fd, F, hm, b⟩ := D.ex
  refine ⟨f, fd, ps, F.ok S (fun vs H Q E h => ?_) (fun cdv A outer s H vs Q E hr h => ?_), hm, F.kp, b⟩
  · obtain ⟨ds, hd, hP, _⟩ := h
    rw [hd.length]; exact hlen _ hP
  · obtain ⟨t, h1, h2⟩ := hbody f cdv A outer s H E hr
    have hpl : ps.length ≤ N.length := by have := congrArg List.length S.pre; rw [List.length_take] at this; omega
    exact ⟨t, h1, enterN (E := E) h (fun ds hP => by rw [hlen _ hP]; exact hpl) fun c ds hP hQ => h2 Q c ds hP hQ⟩
theorem cl_M {R : List PyData → List PyData → Prop} (D : Dfn K mg x st ps) (S : FnScope N ps (defScope st)) (hlen : ∀ ds, PP ds → ds.length = ps.length)
    (hbody : ∀ (f : Addr) (cdv : Value) (A : Around) (outer : List Env) (s : Shared) (H : Hp) (E : XK), Room k (A.deeper (envOfC x (defScope st) s.heap.objs.size f cdv)) →
      ∃ t, PSs (cxOf CX0 P w K mg base N x (defScope st) f cdv A outer s H E).nox (defBody st) t ∧ ∀ (Q : VK) (c : Cq K) ds, (∀ a, c.NW a → c.H0 a = none) → PP ds → (∀ r, R ds r → RtL c Q r) → Go c c.H0 t { nx := fun _ H' => Q .non H', rt := Q } (ds.map (Sl.val false) ++ List.replicate (N.length - ds.length) Sl.no)) :
    Cl P w K mg base CX0 (k + 1) x (spM K PP R) := by
  obtain ⟨f, fd, F, hm, b⟩ := D.ex
  refine ⟨f, fd, ps, F.ok S (fun vs H Q E h => ?_) (fun cdv A outer s H vs Q E hr h => ?_), hm, F.kp, b⟩
  · obtain ⟨ds, hd, hP, _⟩ := h
    rw [hd.length]; exact hlen _ hP
  · obtain ⟨t, h1, h2⟩ := hbody f cdv A outer s H E hr
    have hpl : ps.length ≤ N.length := by have := congrArg List.length S.pre; rw [List.length_take] at this; omega
    exact ⟨t, h1, enterM (E := E) h (fun ds hP => by rw [hlen _ hP]; exact hpl) fun c ds hc hP hQ => h2 Q c ds hc hP hQ⟩
end
/-! results that share objects with arguments -/
inductive DdM (K : PySem.W.Frag) (Z : Addr → Prop) (H : Hp) : List Bool → List V → List PyData → Prop
  | nil : DdM K Z H [] [] []
  | new {v : V} {d : PyData} {ms : List Bool} {vs : List V} {ds : List PyData} : Dd (only Z) H v d → DdM K Z H ms vs ds → DdM K Z H (true :: ms) (v :: vs) (d :: ds)
  | any {v : V} {d : PyData} {ms : List Bool} {vs : List V} {ds : List PyData} : Dd (T1 K) H v d → DdM K Z H ms vs ds → DdM K Z H (false :: ms) (v :: vs) (d :: ds)
inductive DdMM {K : PySem.W.Frag} (c : Cq K) (F H : Hp) : List Bool → List V → List PyData → Prop
  | nil : DdMM c F H [] [] []
  | new {v : V} {d : PyData} {ms : List Bool} {vs : List V} {ds : List PyData} : Dd (c.pw true) F v d → DdMM c F H ms vs ds → DdMM c F H (true :: ms) (v :: vs) (d :: ds)
  | any {v : V} {d : PyData} {ms : List Bool} {vs : List V} {ds : List PyData} : Dd (T1 K) H v d → DdMM c F H ms vs ds → DdMM c F H (false :: ms) (v :: vs) (d :: ds)
theorem DdM.lens {K : PySem.W.Frag} {Z : Addr → Prop} {H : Hp} : ∀ {ms : List Bool} {vs : List V} {ds : List PyData}, DdM K Z H ms vs ds → vs.length = ds.length ∧ ms.length = ds.length
  | _, _, _, .nil => ⟨rfl, rfl⟩
  | _, _, _, .new _ h => by have := DdM.lens h; simp [this.1, this.2]
  | _, _, _, .any _ h => by have := DdM.lens h; simp [this.1, this.2]
theorem rd_some {H : Hp} {a : Addr} {u : HO} (h : Rd H a u) : H a ≠ none := by
  rcases h with h | ⟨o, h⟩ <;> rw [h] <;> simp
theorem DdMM.m {K : PySem.W.Frag} {c : Cq K} {F H : Hp} (e : Ex F H) : ∀ {ms : List Bool} {vs : List V} {ds : List PyData}, DdMM c F H ms vs ds → DdM K (fun a => c.NW a ∧ F a ≠ none) H ms vs ds
  | _, _, _, .nil => .nil
  | _, _, _, .new (v := v) (d := x) d h =>
    have q : Dd (only fun a => c.NW a ∧ F a ≠ none) H v x := d.mono (fun a u (p : c.NW a) r => show (c.NW a ∧ F a ≠ none) ∧ Rd H a u from ⟨⟨p, rd_some r⟩, rd_ex e r⟩) fun _ _ (h : False) => h.elim
    .new q (DdMM.m e h)
  | _, _, _, .any d h => .any d (DdMM.m e h)
/-- data made anew, or of the marked arguments -/
def spS (K : PySem.W.Frag) (ms : List Bool) (P : List PyData → Prop) (R : List PyData → PyData → Prop) : Sp := fun vs H Q _ => ∃ Z ds, DdM K Z H ms vs ds ∧ P ds ∧ ∀ r v H', R ds r → Ex H H' → Dd (only fun a => H a = none ∨ Z a) H' v r → Q v H'
def EvAM {K : PySem.W.Frag} (c : Cq K) (ms : List Bool) (ta : TA) (ρ : Rho) (ds : List PyData) : Prop := ∀ (O : Addr → Prop) (σ : St) (F H : Hp), Sim c O ρ σ F H → ∀ Q : List V → Hp → Prop, (∀ vs F' H', Ex F F' → Ex H H' → Sim c O ρ σ F' H' → DdMM c F' H' ms vs ds → Q vs H') → ta σ H Q
section
variable {K : PySem.W.Frag} {c : Cq K} {b b' : Bool} {ρ : Rho} {te : TE} {ta : TA} {d : PyData} {ms : List Bool} {ds : List PyData} {r : PyData} {PP : List PyData → Prop} {R : List PyData → PyData → Prop} {E : XK}
theorem em_nil : EvAM c [] tNil ρ [] := fun O σ F H S Q k => k _ F H (Evl.Ex.refl _) (Evl.Ex.refl _) S .nil
theorem em_new (h : Ev c true te ρ d) (hr : EvAM c ms ta ρ ds) : EvAM c (true :: ms) (tCons te ta) ρ (d :: ds) := fun O σ F H S Q k =>
  h O σ F H S _ fun v F1 H1 e1 h1 S1 d1 => hr O σ F1 H1 S1 _ fun vs F2 H2 e2 h2 S2 d2 => k _ F2 H2 (e1.trans e2) (h1.trans h2) S2 (.new (d1.ex e2) d2)
theorem em_any (h : EvR c te ρ d) (hr : EvAM c ms ta ρ ds) : EvAM c (false :: ms) (tCons te ta) ρ (d :: ds) := fun O σ F H S Q k =>
  h O σ F H S _ fun v F1 H1 e1 h1 S1 d1 => hr O σ F1 H1 S1 _ fun vs F2 H2 e2 h2 S2 d2 => k _ F2 H2 (e1.trans e2) (h1.trans h2) S2 (.any (d1.ex h2) d2)
theorem ev_callS (h : EvAM c ms ta ρ ds) (hP : PP ds) : EvN c true (tCall (spS K ms PP R) [] E ta) ρ (R ds) := fun O σ F H S Q k => h O σ F H S _ fun vs F1 H1 e1 h1 S1 d1 => by
  refine ⟨_, ds, by rw [List.append_nil]; exact d1.m S1.ff, hP, fun r v H' hR e2 dd => ?_⟩
  refine k r v _ H' hR (e1.trans (addF_ex S1.ff)) (h1.trans e2) (S1.add e2) ?_
  refine dd.mono (fun a u p ra => ?_) fun _ _ (h : False) => h.elim
  rcases p with p | ⟨p, q⟩
  · exact ⟨Cq.any (b := true) (Evl.fresh_back S1.bb p), rd_add p ra⟩
  · refine ⟨p, ?_⟩
    have n1 : H1 a ≠ none := fun z => q (Evl.fresh_back S1.ff z)
    cases eF : F1 a with
    | none => exact absurd eF q
    | some o =>
      have g := e2 a o (S1.ff a o eF)
      have z : addF F1 H1 H' a = some o := by rw [addF_old n1]; exact eF
      rcases ra with ra | ⟨o', ra⟩
      · left; rw [z]; rw [g] at ra; exact ra
      · right; exact ⟨o', by rw [z]; rw [g] at ra; exact ra⟩
def startM (ms : List Bool) (ds : List PyData) : Rho := (ds.zip ms).map fun x => Sl.val x.2 x.1
theorem DdM.start {Z : Addr → Prop} {H : Hp} {NW : Addr → Prop} {ok : ∀ a, H a = none → NW a} (hz : ∀ a, Z a → NW a) : ∀ {ms : List Bool} {vs : List V} {ds : List PyData}, DdM K Z H ms vs ds → ∀ (i : Nat) (s : Sl) (o : Option V), (startM ms ds)[i]? = some s → (vs.map some)[i]? = some o → SlOk (K := K) ⟨H, NW, ok⟩ H H s o
  | _, _, _, .nil, i, s, o, h, _ => by simp [startM] at h
  | _, _, _, .new d h, 0, s, o, h1, h2 => by
    simp [startM] at h1 h2
    subst h1 h2
    exact ⟨_, rfl, d.mono (fun a u p r => ⟨hz a p, r⟩) fun _ _ (h : False) => h.elim⟩
  | _, _, _, .any d h, 0, s, o, h1, h2 => by
    simp [startM] at h1 h2
    subst h1 h2
    exact ⟨_, rfl, d⟩
  | _, _, _, .new d h, i + 1, s, o, h1, h2 => DdM.start hz h i s o (by simpa [startM] using h1) (by simpa using h2)
  | _, _, _, .any d h, i + 1, s, o, h1, h2 => DdM.start hz h i s o (by simpa [startM] using h1) (by simpa using h2)
theorem startM_own {ms : List Bool} {ds : List PyData} {i : Nat} {s : Sl} (h : (startM ms ds)[i]? = some s) (o : Option V) (a : Addr) : ¬ s.Owns o a := by
  unfold startM at h
  rw [List.getElem?_map] at h
  cases q : (ds.zip ms)[i]? with
  | none => rw [q] at h; cases h
  | some x => rw [q] at h; cases h; exact fun h => h
theorem enterS {N : List Str} {t : TS} {vs : List V} {H : Hp} {Q : VK} (h : spS K ms PP R vs H Q E) (hN : ∀ ds, PP ds → ds.length ≤ N.length)
    (body : ∀ (c : Cq K) ds, PP ds → (∀ r, R ds r → Rt c Q r) → Go c c.H0 t { nx := fun _ H' => Q .non H', rt := Q } (startM ms ds ++ List.replicate (N.length - ds.length) Sl.no)) : t { nx := fun _ H' => Q .non H', rt := Q } (L2.start N vs) H := by
  obtain ⟨Z, ds, hd, hP, k⟩ := h
  have hl := hd.lens
  have hn := hN ds hP
  have sl : (startM ms ds).length = ds.length := by unfold startM; rw [List.length_map, List.length_zip, hl.2, Nat.min_self]
  refine body ⟨H, fun a => H a = none ∨ Z a, fun _ h => .inl h⟩ ds hP (fun r hR v H' e dd => k r v H' hR e dd) (fun _ => False) _ H H (Evl.Ex.refl _) ⟨Evl.Ex.refl _, Evl.Ex.refl _, fun _ h => h.elim, by simp [L2.start, hl, sl], fun i s o h1 h2 => ?_, fun i j s t o o' a h1 h2 h3 h4 h5 => ?_⟩
  · by_cases hi : i < ds.length
    · rw [List.getElem?_append_left (by rw [sl]; exact hi)] at h1
      unfold L2.start at h2
      rw [List.getElem?_append_left (by rw [List.length_map]; omega)] at h2
      exact hd.start (fun a h => .inr h) i s o h1 h2
    · rw [List.getElem?_append_right (by rw [sl]; omega), List.getElem?_replicate] at h1
      split at h1
      · cases h1; trivial
      · cases h1
  · exfalso
    by_cases hi : i < ds.length
    · rw [List.getElem?_append_left (by rw [sl]; exact hi)] at h1
      exact startM_own h1 o a h5
    · rw [List.getElem?_append_right (by rw [sl]; omega), List.getElem?_replicate] at h1
      split at h1
      · cases h1; exact h5
      · cases h1
end
section
variable {P : Program} {w : World} {K : PySem.W.Frag} {mg : Str → Option Value} {base : Heap} {x : Str} {st : Stmt} {N ps : List Str} {k : Nat} {PP : List PyData → Prop} {ms : List Bool}
theorem cl_S {R : List PyData → PyData → Prop} (D : Dfn K mg x st ps) (S : FnScope N ps (defScope st)) (hlen : ∀ ds, PP ds → ds.length = ps.length)
    (hbody : ∀ (f : Addr) (cdv : Value) (A : Around) (outer : List Env) (s : Shared) (H : Hp) (E : XK), Room k (A.deeper (envOfC x (defScope st) s.heap.objs.size f cdv)) →
      ∃ t, PSs (cxOf CX0 P w K mg base N x (defScope st) f cdv A outer s H E).nox (defBody st) t ∧ ∀ (Q : VK) (c : Cq K) ds, PP ds → (∀ r, R ds r → Rt c Q r) → Go c c.H0 t { nx := fun _ H' => Q .non H', rt := Q } (startM ms ds ++ List.replicate (N.length - ds.length) Sl.no)) :
    Cl P w K mg base CX0 (k + 1) x (spS K ms PP R) := by
  obtain ⟨f, fd, F, hm, b⟩ := D.ex
  refine ⟨f, fd, ps, F.ok S (fun vs H Q E h => ?_) (fun cdv A outer s H vs Q E hr h => ?_), hm, F.kp, b⟩
  · obtain ⟨Z, ds, hd, hP, _⟩ := h
    rw [hd.lens.1]; exact hlen _ hP
  · obtain ⟨t, h1, h2⟩ := hbody f cdv A outer s H E hr
    have hpl : ps.length ≤ N.length := by have := congrArg List.length S.pre; rw [List.length_take] at this; omega
    exact ⟨t, h1, enterS (E := E) h (fun ds hP => by rw [hlen _ hP]; exact hpl) fun c ds hP hQ => h2 Q c ds hP hQ⟩
end
end DL

end
section
set_option maxRecDepth 100000
set_option maxHeartbeats 2000000
/-! plain facts about needs -/
namespace DL
open PySem L2
/-! how long lists are at most -/
structure Ln {α : Type} (n : Nat) (xs : List α) : Prop where
  h : xs.length ≤ n
/-- no list: what is not known yet is told by it -/
def noList (α : Type) : List α := []
theorem Ln.guard {α : Type} {n : Nat} (h : Ln n (noList α)) : Ln n (noList α) := h
theorem Ln.cons {α : Type} {n : Nat} {x : α} {xs : List α} (h : Ln n xs) : Ln (n + 1) (x :: xs) := ⟨by have := h.h; rw [List.length_cons]; omega⟩
theorem Ln.nil {α : Type} : Ln 0 ([] : List α) := ⟨Nat.le_refl _⟩
theorem Ln.app {α : Type} {m n : Nat} {xs ys : List α} (h : Ln m xs) (g : Ln n ys) : Ln (m + n) (xs ++ ys) := ⟨by have := h.h; have := g.h; rw [List.length_append]; omega⟩
theorem Ln.cut {α : Type} {n : Nat} {xs : List α} {lo hi : Option Int} (h : Ln n xs) : Ln n (cutL xs lo hi) := ⟨by
  have := h.h
  unfold cutL
  rw [List.length_take, List.length_drop]
  omega⟩
theorem Ln.rev {α : Type} {n : Nat} {xs : List α} (h : Ln n xs) : Ln n xs.reverse := ⟨by rw [List.length_reverse]; exact h.h⟩
theorem Ln.map {α β : Type} {n : Nat} {f : α → β} {xs : List α} (h : Ln n xs) : Ln n (xs.map f) := ⟨by rw [List.length_map]; exact h.h⟩
theorem Ln.filter {α : Type} {n : Nat} {f : α → Bool} {xs : List α} (h : Ln n xs) : Ln n (xs.filter f) := ⟨Nat.le_trans (List.length_filter_le _ _) h.h⟩
theorem Ln.range {n : Nat} : Ln n (List.range n) := ⟨by simp⟩
theorem Ln.le {α : Type} {m n : Nat} {xs : List α} (h : Ln m xs) (l : m ≤ n) : xs.length ≤ n := Nat.le_trans h.h l
theorem Ln.lt {α : Type} {m n : Nat} {xs : List α} (h : Ln m xs) (l : m < n) : xs.length < n := Nat.lt_of_le_of_lt h.h l
theorem Ln.add {α β : Type} {m n k : Nat} {xs : List α} {ys : List β} (h : Ln m xs) (g : Ln n ys) (l : m + n ≤ k) : xs.length + ys.length ≤ k := by have := h.h; have := g.h; omega
section
variable {K : PySem.W.Frag} {c : Cq K} {b : Bool} {ρ : Rho} {te : TE} {ds : List PyData} {d e f : PyData} {i j k : Nat}
theorem el_revL (h : EvE c b te ρ ds) : EvL c b (tRevL K te) ρ ds.reverse := el_rev h
theorem tg_unl2 : TgOk c b (gUnl K 2 (gCons (gName i) (gCons (gName j) gNil))) [i, j] ρ (.list [d, e]) ((ρ.set i (.val b d)).set j (.val b e)) := tg_unl (tgs_cons tg_name (tgs_cons tg_name tgs_nil)) rfl
theorem tg_unl3 : TgOk c b (gUnl K 3 (gCons (gName i) (gCons (gName j) (gCons (gName k) gNil)))) [i, j, k] ρ (.list [d, e, f]) (((ρ.set i (.val b d)).set j (.val b e)).set k (.val b f)) := tg_unl (tgs_cons tg_name (tgs_cons tg_name (tgs_cons tg_name tgs_nil))) rfl
theorem tg_tup2 : TgOk c b (gTup K 2 (gCons (gName i) (gCons (gName j) gNil))) [i, j] ρ (.tuple [d, e]) ((ρ.set i (.val b d)).set j (.val b e)) := tg_tup (tgs_cons tg_name (tgs_cons tg_name tgs_nil)) rfl
theorem tg_tup3 : TgOk c b (gTup K 3 (gCons (gName i) (gCons (gName j) (gCons (gName k) gNil)))) [i, j, k] ρ (.tuple [d, e, f]) (((ρ.set i (.val b d)).set j (.val b e)).set k (.val b f)) := tg_tup (tgs_cons tg_name (tgs_cons tg_name (tgs_cons tg_name tgs_nil))) rfl
variable {ta tb : TE} {x y : Bool}
theorem ev_isB (ha : EvR c ta ρ (.bool x)) (hb : EvR c tb ρ (.bool y)) : Ev c b (tOp rIsB ta tb) ρ (.bool (decide (x = y))) := fun O σ F H S Q k =>
  ha O σ F H S _ fun v F1 H1 e1 h1 S1 d1 => hb O σ F1 H1 S1 _ fun w F2 H2 e2 h2 S2 d2 => by
    cases d1; cases d2
    exact ⟨x, y, rfl, rfl, k _ F2 H2 (e1.trans e2) (h1.trans h2) S2 (.bl _)⟩
end
/-- no data: what is not known yet is told by it -/
def noData : PyData := .none
theorem Ev.guard {K : PySem.W.Frag} {c : Cq K} {b : Bool} {ρ : Rho} {te : TE} (h : Ev c b te ρ noData) : Ev c b te ρ noData := h
/-- an int out of a list that is only read -/
theorem ev_ixI {K : PySem.W.Frag} {c : Cq K} {b : Bool} {ρ : Rho} {ta tb : TE} {ds : List PyData} {i z : Int} (ha : EvR c ta ρ (.list ds)) (hb : EvR c tb ρ (.int i)) (h : atI ds i = some (.int z)) : Ev c b (tOp (rIxL K) ta tb) ρ (.int z) := (ev_ixR ha hb h).sca rfl
theorem EvB.weak {K : PySem.W.Frag} {c : Cq K} {ρ ρ' : Rho} {tt : TT} {x : Bool} (l : Le ρ' ρ) (h : EvB c tt ρ' x) : EvB c tt ρ x := fun O σ F H S Q k =>
  h (fun a => O a ∨ ownA ρ σ a) σ F H ((S.sub fun a h => h.elim (S.prot a) fun h => S.ownA_prot h).le l) Q fun F' H' e1 e2 S' =>
    k F' H' e1 e2 (S.again0 e1 e2 S'.ff (fun a h => (S'.prot a (.inl h)).1) fun a h => (S'.prot a (.inr h)).1)
theorem Sz.zero {n : Nat} : Sz n 0 := ⟨by simp; exact Nat.pow_pos (by decide)⟩
theorem natAbs_sum_le {n : Nat} : ∀ {xs : List Int}, (∀ x ∈ xs, Sz n x) → xs.sum.natAbs ≤ xs.length * 2 ^ n
  | [], _ => by simp
  | x :: xs, h => by
    have a := (h x (by simp)).h
    have b := natAbs_sum_le (xs := xs) fun y hy => h y (by simp [hy])
    have c := Int.natAbs_add_le x xs.sum
    rw [List.sum_cons, List.length_cons, Nat.succ_mul]
    omega
theorem Sz.sum {n k : Nat} {xs : List Int} (h : ∀ x ∈ xs, Sz n x) (l : xs.length < 2 ^ k) : Sz (k + n) xs.sum := ⟨by
  have a := natAbs_sum_le h
  rw [Nat.pow_add]
  exact Nat.lt_of_le_of_lt a (Nat.mul_lt_mul_of_pos_right l (Nat.pow_pos (by decide)))⟩
theorem Sz.max {m n : Nat} {x y : Int} (h : Sz m x) (g : Sz n y) : Sz (Max.max m n) (Max.max x y) := by
  have a := h.mono (Nat.le_max_left m n)
  have b := g.mono (Nat.le_max_right m n)
  rcases Int.le_total x y with q | q
  · rw [Int.max_eq_right q]; exact b
  · rw [Int.max_eq_left q]; exact a
theorem sorted_uniq : ∀ {xs ys : List Int}, xs.Perm ys → xs.Pairwise (· ≤ ·) → ys.Pairwise (· ≤ ·) → xs = ys
  | [], ys, p, _, _ => by rw [List.nil_perm.mp p]
  | x :: xs, [], p, _, _ => absurd p.length_eq (by simp)
  | x :: xs, y :: ys, p, h, g => by
    obtain ⟨h1, h2⟩ := List.pairwise_cons.mp h
    obtain ⟨g1, g2⟩ := List.pairwise_cons.mp g
    have mx : x ∈ y :: ys := p.mem_iff.mp (by simp)
    have my : y ∈ x :: xs := p.mem_iff.mpr (by simp)
    have e : x = y := by
      rcases List.mem_cons.mp mx with q | q
      · exact q
      · rcases List.mem_cons.mp my with r | r
        · exact r.symm
        · have a := g1 x q
          have b := h1 y r
          omega
    subst e
    rw [sorted_uniq (List.Perm.cons_inv p) h2 g2]
/-- sorted(xs), ints -/
theorem el_sorted {K : PySem.W.Frag} {c : Cq K} {b : Bool} {ρ : Rho} {te : TE} {ns ms : List Int} (h : EvR c te ρ (.list (ns.map PyData.int))) (hp : ms.Perm ns) (hs : ms.Pairwise (· ≤ ·)) (hl : ns.length < 64) : EvL c b (tCB (rSorted K) (tCons te tNil)) ρ (ms.map PyData.int) := fun O σ F H S Q k =>
  h O σ F H S _ fun v F1 H1 e1 h1 S1 d1 => by
    cases d1 with
    | lst r q =>
      have e := q.ints
      subst e
      refine ⟨_, ns, rfl, dd_sq (fun _ _ h => h) (Evl.Ex.refl _) r, hl, fun ns' p hp' hs' hn => ?_⟩
      rw [sorted_uniq (hp'.trans hp.symm) hs' hs]
      exact lay_list k e1 h1 S1 (DdAll.ofInts ms) p hn
theorem sorted_ex (ns : List Int) : ∃ ms : List Int, ms.Perm ns ∧ ms.Pairwise (· ≤ ·) := by
  refine ⟨ns.mergeSort (fun a b => decide (a ≤ b)), List.mergeSort_perm _ _, ?_⟩
  have := List.pairwise_mergeSort (le := fun a b : Int => decide (a ≤ b)) (fun a b c h1 h2 => by simp at *; omega) (fun a b => by simp; omega) ns
  exact this.imp fun h => by simpa using h
theorem any_pD (prs : List (Int × Int)) (x y : Int) : ((prs.map pD).any fun z => PyData.eqv z (.list [.int x, .int y])) = decide ((x, y) ∈ prs) := by
  have h := any_eqv (f := pD) (k := 1) (fun a => nice_pD a) pD_inj prs (x, y)
  exact h.trans (by simp)
end DL
namespace MQ
open PySem L2 DL
/-- the works 0 .. m - 1 in some order -/
def Ranks (m : Nat) (rs : List Int) : Prop := rs.Perm ((List.range m).map fun i : Nat => (i : Int))
/-- needs of works by works of a greater rank -/
def Picks (m : Nat) (rs : List Int) (prs : List (Int × Int)) : Prop := ∀ p ∈ prs, ∃ i j : Nat, i < j ∧ j < m ∧ rs[i]? = some p.1 ∧ rs[j]? = some p.2
/-- needs of works that can be kept in some order -/
def Dag (m : Nat) (prs : List (Int × Int)) : Prop := ∃ rk : Int → Nat, ∀ p ∈ prs, 0 ≤ p.1 ∧ p.1 < (m : Int) ∧ 0 ≤ p.2 ∧ p.2 < (m : Int) ∧ rk p.1 < rk p.2
theorem Ranks.none : Ranks 0 [] := by unfold Ranks; simp
theorem Ranks.length {m : Nat} {rs : List Int} (h : Ranks m rs) : rs.length = m := by have := List.Perm.length_eq h; simpa using this
theorem Ranks.mem {m : Nat} {rs : List Int} (h : Ranks m rs) {x : Int} : x ∈ rs ↔ 0 ≤ x ∧ x < (m : Int) := by
  rw [List.Perm.mem_iff h, List.mem_map]
  constructor
  · rintro ⟨i, hi, rfl⟩
    have := List.mem_range.mp hi
    omega
  · rintro ⟨a, b⟩
    exact ⟨x.toNat, List.mem_range.mpr (by omega), by omega⟩
theorem Ranks.nodup {m : Nat} {rs : List Int} (h : Ranks m rs) : rs.Nodup := by
  refine (List.Perm.nodup_iff h).mpr ?_
  rw [List.nodup_iff_pairwise_ne, List.pairwise_map]
  exact (List.nodup_iff_pairwise_ne.mp List.nodup_range).imp fun h => by omega
theorem Ranks.insert {m : Nat} {rs : List Int} (h : Ranks m rs) (k : Nat) : Ranks (m + 1) (rs.take k ++ [(m : Int)] ++ rs.drop k) := by
  unfold Ranks at *
  rw [List.range_succ, List.map_append, List.map_singleton]
  have e : rs.take k ++ [(m : Int)] ++ rs.drop k = rs.take k ++ ((m : Int) :: rs.drop k) := by simp
  rw [e]
  refine List.perm_middle.trans ?_
  rw [List.take_append_drop]
  exact (List.Perm.cons _ h).trans (List.perm_append_singleton _ _).symm
theorem Ranks.get {m : Nat} {rs : List Int} (h : Ranks m rs) {i : Nat} (hi : i < m) : ∃ x, rs[i]? = some x ∧ 0 ≤ x ∧ x < (m : Int) := by
  have hl := h.length
  refine ⟨rs[i]'(by omega), by simp [hl, hi], ?_⟩
  exact h.mem.mp (List.getElem_mem _)
theorem idxOf_get {rs : List Int} (hn : rs.Nodup) {i : Nat} {x : Int} (h : rs[i]? = some x) : rs.idxOf x = i := by
  obtain ⟨hi, rfl⟩ := List.getElem?_eq_some_iff.mp h
  exact List.Nodup.idxOf_getElem hn i hi
theorem Picks.dag {m : Nat} {rs : List Int} {prs : List (Int × Int)} (hr : Ranks m rs) (h : Picks m rs prs) : Dag m prs := by
  refine ⟨fun x => rs.idxOf x, fun p hp => ?_⟩
  obtain ⟨i, j, hij, hj, h1, h2⟩ := h p hp
  have m1 := hr.mem.mp (List.mem_of_getElem? h1)
  have m2 := hr.mem.mp (List.mem_of_getElem? h2)
  refine ⟨m1.1, m1.2, m2.1, m2.2, ?_⟩
  show rs.idxOf p.1 < rs.idxOf p.2
  rw [idxOf_get hr.nodup h1, idxOf_get hr.nodup h2]
  exact hij
theorem Picks.app {m : Nat} {rs : List Int} {prs : List (Int × Int)} (h : Picks m rs prs) {i j : Nat} {x y : Int} (hij : i < j) (hj : j < m) (h1 : rs[i]? = some x) (h2 : rs[j]? = some y) : Picks m rs (prs ++ [(x, y)]) := fun p hp => by
  rcases List.mem_append.mp hp with q | q
  · exact h p q
  · rw [List.mem_singleton] at q
    subst q
    exact ⟨i, j, hij, hj, h1, h2⟩
theorem Picks.nil {m : Nat} {rs : List Int} : Picks m rs [] := fun p hp => by cases hp
theorem cutL_sub {α : Type} {xs : List α} {lo hi : Option Int} {x : α} (h : x ∈ cutL xs lo hi) : x ∈ xs := by
  unfold cutL at h
  exact List.mem_of_mem_drop (List.mem_of_mem_take h)
theorem cutL_len {α : Type} {xs : List α} {lo hi : Option Int} : (cutL xs lo hi).length ≤ xs.length := by
  unfold cutL
  rw [List.length_take, List.length_drop]
  omega
/-! lists of ints, at most so long -/
structure IntsN (n : Nat) (ds : List PyData) : Prop where
  al : ∀ d ∈ ds, ∃ z : Int, d = .int z
  le : ds.length ≤ n
theorem IntsN.ex {n : Nat} : ∀ {ds : List PyData}, IntsN n ds → ∃ ws : List Int, ds = ws.map PyData.int ∧ ws.length ≤ n
  | [], h => ⟨[], rfl, by simp⟩
  | d :: ds, h => by
    obtain ⟨z, rfl⟩ := h.al d (by simp)
    have l := h.le
    rw [List.length_cons] at l
    obtain ⟨ws, rfl, hl⟩ := IntsN.ex (n := n - 1) (ds := ds) ⟨fun d hd => h.al d (by simp [hd]), by omega⟩
    exact ⟨z :: ws, rfl, by rw [List.length_cons]; omega⟩
theorem IntsN.of {ws : List Int} {n : Nat} (h : ws.length ≤ n) : IntsN n (ws.map PyData.int) := ⟨fun d hd => by
  obtain ⟨z, _, rfl⟩ := List.mem_map.mp hd
  exact ⟨z, rfl⟩, by rw [List.length_map]; exact h⟩
theorem IntsN.app {m n : Nat} {xs ys : List PyData} (h : IntsN m xs) (g : IntsN n ys) : IntsN (m + n) (xs ++ ys) := ⟨fun d hd => by
  rcases List.mem_append.mp hd with q | q
  · exact h.al d q
  · exact g.al d q, by have := h.le; have := g.le; rw [List.length_append]; omega⟩
theorem IntsN.cut {n : Nat} {xs : List PyData} (h : IntsN n xs) (lo hi : Option Int) : IntsN n (cutL xs lo hi) := ⟨fun d hd => h.al d (cutL_sub hd), Nat.le_trans cutL_len h.le⟩
theorem IntsN.rev {n : Nat} {xs : List PyData} (h : IntsN n xs) : IntsN n xs.reverse := ⟨fun d hd => h.al d (List.mem_reverse.mp hd), by rw [List.length_reverse]; exact h.le⟩
theorem IntsN.nil : IntsN 0 [] := ⟨fun d hd => (List.not_mem_nil hd).elim, Nat.le_refl _⟩
theorem IntsN.cons {n : Nat} {z : Int} {xs : List PyData} (h : IntsN n xs) : IntsN (n + 1) (.int z :: xs) := ⟨fun d hd => by
  rcases List.mem_cons.mp hd with q | q
  · exact ⟨z, q⟩
  · exact h.al d q, by have := h.le; rw [List.length_cons]; omega⟩
theorem IntsN.mono {m n : Nat} {xs : List PyData} (h : IntsN m xs) (l : m ≤ n) : IntsN n xs := ⟨h.al, Nat.le_trans h.le l⟩
theorem dec (p : Prop) : ∃ b : Bool, b = true ↔ p := by
  by_cases h : p
  · exact ⟨true, by simp [h]⟩
  · exact ⟨false, by simp [h]⟩
theorem dec_eq {b d : Bool} {p : Prop} (h : b = true ↔ p) (g : d = true ↔ p) : b = d := by
  rw [Bool.eq_iff_iff, h, g]
theorem dec_false {b : Bool} {p : Prop} (h : b = true ↔ p) (g : ¬ p) : b = false := by
  cases b with
  | false => rfl
  | true => exact absurd (h.mp rfl) g
theorem dec_true {b : Bool} {p : Prop} (h : b = true ↔ p) (g : p) : b = true := h.mpr g
/-- works each of which needs the one ahead -/
def IsWay (m : Int) (prs : List (Int × Int)) (ws : List Int) : Prop := (∀ (k : Nat) (a : Int), ws[k]? = some a → 0 ≤ a ∧ a < m) ∧ (∀ (k : Nat) (a b : Int), ws[k]? = some a → ws[k + 1]? = some b → (a, b) ∈ prs) ∧ 0 < ws.length
end MQ

end
section
set_option maxRecDepth 100000
set_option maxHeartbeats 2000000
/-! errors that are caught and kept: except X as e: y = e, with y looked at behind it -/
namespace DL
open PySem PySem.Spec PyProof.Rows L2
theorem caught_ok {P : Program} {w : World} {H : Hp} {h : Heap} {a : Addr} {cls : Value} {oe : Obj} {vs : Array Value} (e : h.get? a = some oe) (c : oe.cls = cls) (d : oe.dict = none) (v : oe.data = .fields vs) : ObjOk P w H h a (.ext (Caught cls a)) :=
  ⟨⟨oe, e, c, d, vs, v⟩, ⟨oe, e⟩, fun _ _ ⟨o, e1, c1, d1, v1⟩ k => ⟨o, k o e1, c1, d1, v1⟩⟩
/-- an object that is new since the entry is told from now on -/
theorem track {X : Cx} {pins : List (Addr × Obj)} {σ : St} {H : Hp} {s : Shared} {a : Addr} {cls : Value} {oe : Obj} {vs : Array Value} (I : Inv X pins σ H s) (n0 : X.s_0.heap.get? a = none) (na : H a = none) (nL : a ≠ X.env.locals)
    (np : ∀ p ∈ X.pn ++ pins, p.1 ≠ a) (e : s.heap.get? a = some oe) (c : oe.cls = cls) (d : oe.dict = none) (v : oe.data = .fields vs) : Inv X pins σ (upd H a (.ext (Caught cls a))) s :=
  ⟨I.ok, I.os, I.bare, ⟨I.base.keep, I.base.slot, fun b o q n hx => by
      rw [upd_ne (fun z => by rw [z, n0] at q; cases q)]
      exact I.base.free b o q n hx, I.base.there, fun b xs q => by
      have r := I.base.tups b xs q
      rw [upd_ne (fun z => by rw [z, na] at r; cases r)]
      exact r, fun b o u q => by
      have r := I.base.frzs b o u q
      rw [upd_ne (fun z => by rw [z, na] at r; cases r)]
      exact r, fun b ps q => by
      obtain ⟨more, r⟩ := I.base.tbls b ps q
      rw [upd_ne (fun z => by rw [z, na] at r; cases r)]
      exact ⟨more, r⟩⟩, I.loc, I.cell, by rw [upd_ne (fun z => nL z.symm)]; exact I.free, fun x k q => by
      rw [upd_ne (fun z => by
        obtain ⟨w, o, ho, hd⟩ := I.cell x k q
        rw [z, e] at ho
        cases ho
        rw [v] at hd
        cases hd)]
      exact I.freeC x k q, fun p hp => by
      obtain ⟨p1, p2, p3⟩ := I.pin p hp
      exact ⟨p1, by rw [upd_ne (np p hp)]; exact p2, p3⟩, I.hok.laidN (fun _ _ z => z) na (caught_ok e c d v), I.len⟩
/-- what the clause 'except x as n' wishes, which takes the exception; the object is told behind it -/
def wKeep (K : PySem.W.Frag) (c : Value) (i : Nat) (ts : Addr → TS) (D : Ends) : WX := fun cls d σ H =>
  PySem.W.exmOne K cls c = some true ∧ d = none ∧ ∀ a, H a = none → ts a { nx := fun σ' H' => D.nx (σ'.set i none) (upd H' a (.ext (Caught cls a))), rt := fun _ _ => False, bk := fun _ _ => False, ct := fun _ _ => False } (σ.set i (some (.ref a))) H
section
variable {X : Cx} {x n : Str} {c : Value} {i : Nat} {body suite : List Stmt} {b₀ : Stmt} {np pos pos' : Pos} {tb : WX → TS} {ts : Addr → TS}
theorem ps_keep (hs : X.stack = X.env :: X.outer) (hf : X.env.frame = some X.env.locals) (hx : X.ex = []) (hN : X.N.Nodup) (hi : X.N[i]? = some n) (hln : X.env.kindOf n = some .local) (hc : Names X x c)
    (hb : ∀ (W : WX) (pn : List (Addr × Obj)) (xe : Value → Shared → Prop), Takes (X.tr pn xe) W → PassesOwn (model X.prog X.w) X.A X.env xe → PSs (X.tr pn xe) body (tb W))
    (hsu : ∀ (a : Addr) (oe : Obj) (cls : Value) (d : Option Addr) (pn : List (Addr × Obj)), Zc cls d oe → (∃ vs, oe.data = .fields vs) → PSs (X.suite a ((a, oe) :: pn)) (b₀ :: suite) (ts a)) :
    PS X (.Try body [.ExceptHandler (some (.Name x np)) (some n) (b₀ :: suite) pos'] [] [] pos) (fun D σ H => tb (wKeep X.K c i ts D) D σ H) := by
  refine ⟨fun pins s σ H D I h => ?_⟩
  have ok := I.ok
  have frm : X.A.frames = some (X.env :: X.outer) := by rw [ok.frames, hs]
  refine wpAny_Try_except (wpAny_mono ((hb (wKeep X.K c i ts D) (X.pn ++ pins) (fun e s₁ => wpAny (model X.prog X.w) X.A (noteFrame e X.env) (fun _ s₂ => wpAny (model X.prog X.w) X.A (setFlight e none) (fun _ s₃ =>
    wpAny (model X.prog X.w) X.A (handleBy e X.env [.ExceptHandler (some (.Name x np)) (some n) (b₀ :: suite) pos']) (SP X pins D) X.xe s₃) X.xe s₂) X.xe s₁) (fun u s' xx => ?_) PassesOwn.looking).run [] s σ H D (I.toTry _) h) (fun f s1 hsp => ?_) (fun e s1 he => he))
  · obtain ⟨a, B, sI, pins', σ', H', cls, d, rfl, J', nb, up, sky, na, os, ag, hm, hd0, hyes⟩ := xx
    have J : Inv X pins σ' H' sI := J'.ofTry ok
    have sky' : Sky B (X.env :: X.outer) a (Zc cls d) X.env.locals s'.heap := by rw [← hs]; exact sky
    show wpAny (model X.prog X.w) X.A (noteFrame (.ref a) X.env) _ _ _
    refine Sky.land Zc.steady frm hf sky' fun h3 fl3 up3 => ?_
    have J3 : Inv X pins σ' H' { s' with heap := h3 } := J.landed nb fl3.1 (up.trans up3) os ag
    obtain ⟨oe3, vs3, he3, hz3, hd3⟩ := fl3.there
    have nfr : a ∉ frs (X.env :: X.outer) := fun hm => by
      obtain ⟨_, o', e', hnf⟩ := fl3.2.2.1.mem hm
      rw [he3] at e'
      cases e'
      exact hnf _ hd3
    have nL : a ≠ X.env.locals := fun z => nfr (List.mem_filterMap.mpr ⟨X.env, List.mem_cons_self, by rw [hf, z]⟩)
    have nF : a ∉ X.fs := fun hm => by
      obtain ⟨e, he, q⟩ := List.mem_filterMap.mp hm
      exact nfr (List.mem_filterMap.mpr ⟨e, List.mem_cons_of_mem _ he, q⟩)
    have aB : B.get? a = none := fl3.2.1
    have aI : sI.heap.get? a = none := by
      cases q : sI.heap.get? a with
      | none => rfl
      | some o => rw [nb a o q (by rw [hs]; exact nfr)] at aB; cases aB
    have n0 : X.s_0.heap.get? a = none := by
      cases q : X.s_0.heap.get? a with
      | none => rfl
      | some o =>
        obtain ⟨o', e'⟩ := J.base.there a o q (by rw [hx]; exact List.not_mem_nil)
        rw [aI] at e'
        cases e'
    have npa : ∀ p ∈ X.pn ++ pins, p.1 ≠ a := fun p hp z => by
      have q := (J.pin p hp).1
      rw [z, aI] at q
      cases q
    have S3 := J3.suite he3 hd3 na nL nF
    refine wpAny_handleBy_cons (codeAny_handlers_test ?_) (by intro q; cases q)
    have LT : PySem.W.Looks (model X.prog X.w) h3 (typeOf (.ref a)) cls := fun A Q E s k q => wpAny_typeOf_ref (k _ _ he3) (by rw [hz3.1]; exact q)
    have LM := PySem.W.exm_one (M := model X.prog X.w) (J3.kIn) LT hm
    have named : ∀ {Q : Value → Shared → Prop} {E : Value → Shared → Prop}, Q c { s' with heap := h3 } → wpAny (model X.prog X.w) (X.A.mark (some (.ref a))) (eval (.Name x np) X.env) Q E { s' with heap := h3 } := fun {Q E} q => by
      obtain ⟨hg, hdbg, hm | ⟨hm, hv, hnn⟩⟩ := hc
      · exact ld_glob (X := X.suite a ((a, oe3) :: (X.pn ++ pins))) S3 hg hm q hdbg
      · exact ld_blt (X := X.suite a ((a, oe3) :: (X.pn ++ pins))) S3 hg hm hv q hnn hdbg
    refine named (LM.here ?_)
    refine codeAny_handlers_suite_as ?_
    refine HandSPX.lands_againZ fl3 fun h4 fl4 up4 => ?_
    have J4 : Inv X pins σ' H' { s' with heap := h4 } := J.landed nb fl4.1 ((up.trans up3).trans up4) os ag
    obtain ⟨oe4, vs4, he4, hz4, hd4⟩ := fl4.there
    have S4 := J4.suite he4 hd4 na nL nF
    refine store_ok (X := X.suite a ((a, oe4) :: (X.pn ++ pins))) (v := .ref a) S4 hN hi (.inl hln) rfl (fun s5 S5 => ?_) (.inr hln)
    refine wpAny_mono ((hsu a oe4 cls d (X.pn ++ pins) hz4 ⟨_, hd4⟩).run [] s5 _ H' _ S5 (hyes a na)) (fun f s6 hsp => ?_) (fun _ _ z => False.elim z)
    cases f with
    | next =>
      obtain ⟨σ6, H6, S6, q6⟩ := hsp
      obtain ⟨g1, g2, _⟩ := S6.pin (a, oe4) (List.mem_append.mpr (.inl List.mem_cons_self))
      have T6 := track (cls := cls) (S6.unsuite ok) n0 g2 nL npa g1 hz4.1 (hz4.2.trans hd0) hd4
      exact gone_ok T6 hN hi hln fun s7 J7 => ⟨_, _, J7, q6⟩
    | brk =>
      obtain ⟨σ6, H6, S6, q6⟩ := hsp
      exact q6.elim
    | cont =>
      obtain ⟨σ6, H6, S6, q6⟩ := hsp
      exact q6.elim
    | ret u =>
      obtain ⟨v6, σ6, H6, S6, r6, q6⟩ := hsp
      exact q6.elim
  · cases f with
    | next =>
      obtain ⟨σ', H', J', q⟩ := hsp
      exact wpAny_execs_nil ⟨σ', H', J'.ofTry ok, q⟩
    | brk =>
      obtain ⟨σ', H', J', q⟩ := hsp
      exact ⟨σ', H', J'.ofTry ok, q⟩
    | cont =>
      obtain ⟨σ', H', J', q⟩ := hsp
      exact ⟨σ', H', J'.ofTry ok, q⟩
    | ret u =>
      obtain ⟨v, σ', H', J', r, q⟩ := hsp
      exact ⟨v, σ', H', J'.ofTry ok, r, q⟩
end
/-! isinstance of such an error -/
def rIsC (K : PySem.W.Frag) : List V → Hp → VK → Prop := fun xs H Q => ∃ (a D : Addr) (c : V) (u : Value) (b : Bool), xs = [.ref a, c] ∧ H a = some (.ext (Caught (.ref D) a)) ∧ ExcC K D ∧ ClsV c u ∧ PySem.W.kitOne K (.ref D) u = some b ∧ Q (.bl b) H
def rIsCT (K : PySem.W.Frag) : List V → Hp → VK → Prop := fun xs H Q => ∃ (a D tp : Addr) (cs : List V) (us : List Value) (b : Bool), xs = [.ref a, .ref tp] ∧ H tp = some (.tup cs) ∧ H a = some (.ext (Caught (.ref D) a)) ∧ ExcC K D ∧ Paired ClsV cs us ∧ PySem.W.kitAny K (.ref D) us = some b ∧ Q (.bl b) H
theorem caught_at {P : Program} {w : World} {H : Hp} {h : Heap} {a D : Addr} (x : ObjOk P w H h a (.ext (Caught (.ref D) a))) : ∃ ox, PySem.W.InstAt h a ox D none := by
  obtain ⟨⟨oe, e, c, d, vs, v⟩, _⟩ := x
  obtain ⟨oc, od, oda, osl⟩ := oe
  dsimp only at c d v
  subst c d v
  exact ⟨_, e, rfl, rfl, trivial⟩
section
variable {X : Cx}
theorem call_isC : CallR X (.builtin "isinstance") (rIsC X.K) := by
  intro pins s σ H xs us Q I r h
  obtain ⟨a, D, c, u, b, rfl, ha, C, k, e, q⟩ := h
  obtain ⟨u1, u2, rfl, r1, r2⟩ := vals2 r
  cases (show u1 = Value.ref a from r1)
  have e2 := k.eq r2
  subst e2
  obtain ⟨ox, J⟩ := caught_at (I.hok a _ ha)
  exact PySem.W.kia_one (PySem.W.handS_kitx_exc C.hg C.hk C.hs C.hd C.ha C.hn C.ht C.hm) I.kIn J e (fun z => nomatch z) fun tk => ⟨.bl b, H, I.tok tk, rfl, q⟩
theorem call_isCT : CallR X (.builtin "isinstance") (rIsCT X.K) := by
  intro pins s σ H xs us Q I r h
  obtain ⟨a, D, tp, cs, ws, b, rfl, hT, ha, C, k, e, q⟩ := h
  obtain ⟨u1, u2, rfl, r1, r2⟩ := vals2 r
  cases (show u1 = Value.ref a from r1)
  cases (show u2 = Value.ref tp from r2)
  obtain ⟨ox, J⟩ := caught_at (I.hok a _ ha)
  obtain ⟨_, its, rv, o, h1, h2, n, h3⟩ := (show ObjOk X.prog X.w H s.heap tp (.tup cs) from I.hok tp _ hT)
  have e3 := ClsV.all k rv
  subst e3
  obtain ⟨oc, od, dt, sl⟩ := o
  simp only at h2 h3
  subst h2 h3
  exact PySem.W.kia_tup (PySem.W.handS_kitx_exc C.hg C.hk C.hs C.hd C.ha C.hn C.ht C.hm) I.kIn J h1 e (fun z => nomatch z) fun tk => ⟨.bl b, H, I.tok tk, rfl, q⟩
theorem k_isC (K : PySem.W.Frag) (h : X.K = K := by rfl) : CallR X (.builtin "isinstance") (rIsC K) := h ▸ call_isC
theorem k_isCT (K : PySem.W.Frag) (h : X.K = K := by rfl) : CallR X (.builtin "isinstance") (rIsCT K) := h ▸ call_isCT
end
/-- what is asked of an own class of errors over ValueError -/
structure EC (K : PySem.W.Frag) (mg : Str → Option Value) (x : Str) (C : Addr) : Prop where
  g : mg x = some (.ref C)
  x : PySem.W.excIn K C [.type "ValueError", .type "Exception", .type "BaseException", .type "object"] "ValueError.__new__" = true
  k : PySem.W.keepIn K (.ref C) = true
  b : PySem.W.subIn K (.ref C) (.type "BaseException") = some true
  t : PySem.W.typeIn K (.ref C) = some (.type "type")
  c : ExcC K C
/-! raise X('..') -/
def tRaise (E : XK) (C : Addr) : TS := fun _ _ H => E (.ref C) none H
theorem ps_raiseK {X : Cx} {x m : Str} {C : Addr} {j : Nat} {p p2 pos pos' : Pos} {E : XK} (e : EC X.K X.mg x C) (hc : X.calm = true) (tk : Takes X (fun cls d _ H => E cls d H)) (hg : Gl X x) (hdb : (x == ("__debug__" : Str)) = false := by decide) :
    PS X (.Raise (some (.Call (.Name x p) [.Constant (.str m) j p2] [] pos)) none pos') (tRaise E C) :=
  ps_raise hc tk (pmk_own PySem.F.excBase_ValueError e.x e.g e.k (raises_own e.b e.t) hg hdb)
/-! try: .. except X as n: y = n -/
def tTryK (K : PySem.W.Frag) (cc : Value) (i j : Nat) (tb : WX → TS) : TS := fun D σ H => tb (wKeep K cc i (fun _ => tAsg (tVar i) (gName j)) D) D σ H
section
variable {X : Cx}
theorem ps_tryK {x n : Str} {cc : Value} {i j : Nat} {body suite : List Stmt} {b₀ : Stmt} {np pos pos' : Pos} {tb : WX → TS} (K : PySem.W.Frag) (hK : X.K = K) (hs : X.stack = X.env :: X.outer) (hf : X.env.frame = some X.env.locals) (hx : X.ex = []) (hN : X.N.Nodup) (hi : X.N[i]? = some n) (hln : X.env.kindOf n = some .local) (hc : Names X x cc)
    (hb : ∀ (W : WX) (pn : List (Addr × Obj)) (xe : Value → Shared → Prop), Takes (X.tr pn xe) W → PassesOwn (model X.prog X.w) X.A X.env xe → PSs (X.tr pn xe) body (tb W))
    (hsu : ∀ (a : Addr) (oe : Obj) (cls : Value) (d : Option Addr) (pn : List (Addr × Obj)), Zc cls d oe → (∃ vs, oe.data = .fields vs) → PSs (X.suite a ((a, oe) :: pn)) (b₀ :: suite) (tAsg (tVar i) (gName j))) :
    PS X (.Try body [.ExceptHandler (some (.Name x np)) (some n) (b₀ :: suite) pos'] [] [] pos) (tTryK K cc i j tb) := by
  subst hK
  exact ps_keep hs hf hx hN hi hln hc hb hsu
theorem pe_clS {CX : CXT} {k : Nat} {x : Str} {sp : Sp} {E : St → XK} {p pos : Pos} {e : Expr} {es : List Expr} {t : TA} (c : Cl X.prog X.w X.K X.mg X.base CX k x sp) (hr : Room k X.A) (hg : Gl X x) (hx : ∀ σ, PassesAt CX X σ (E σ)) (ha : PA X (e :: es) t)
    (hdb : (x == ("__debug__" : Str)) = false := by decide) (he : starEach (e :: es) X.env = (false, eval e X.env) :: starEach es X.env := by rfl) (hpl : (backTo pos (starEach es X.env)).any (·.1) = false := by rfl) :
    PE X (.Call (.Name x p) (e :: es) [] pos) (tCallS sp E t) := by
  obtain ⟨f, fd, ps, F, hm, kp, b⟩ := c.ex
  exact pe_callS F hr hg hm kp b hx ha hdb he hpl
end
section
variable {K : PySem.W.Frag} {c : Cq K} {B : Hp} {b : Bool} {ρ : Rho} {D D' : Ends} {ta : TA} {te : TE} {tb : WX → TS} {tz : TS} {ds : List PyData} {r : PyData} {C : Addr} {cc : Value} {i j : Nat} {R : List PyData → PyData → Prop} {Xr : List PyData → Addr → Prop} {E : St → XK}
theorem go_try (h : Go c B (tb (wKeep K cc i (fun _ => tAsg (tVar i) (gName j)) D)) D ρ) : Go c B (tTryK K cc i j tb) D ρ := h
theorem q_try (h : Go c B (tb (wKeep K cc i (fun _ => tAsg (tVar i) (gName j)) { D with nx := tz D })) { D with nx := tz D } ρ) : Go c B (tSeq (tTryK K cc i j tb) tz) D ρ := h
/-- the call hands something back -/
theorem go_dropXS (h : EvA c ta ρ ds) (hR : R ds r) (k : Nx c B D ρ) : Go c B (tDrop (tCallS (spX K R Xr) E ta)) D ρ := fun O σ F H e S => h O σ F H S _ fun vs F1 H1 e1 h1 S1 d1 =>
  ⟨ds, d1, .inl ⟨r, hR, fun v H' e2 dd => k O σ _ H' (e.trans (e1.trans (addF_ex S1.ff))) (S1.add e2)⟩⟩
/-- the call's error is caught -/
theorem go_dropXK (h : EvA c ta ρ ds) (hX : Xr ds C) (he : PySem.W.exmOne K (.ref C) cc = some true) (hi : i < ρ.length) (k : Nx c B D' ((ρ.set i .no).set j (.exc (.ref C)))) (ij : i ≠ j := by decide) :
    Go c B (tDrop (tCallS (spX K R Xr) (WE (wKeep K cc i (fun _ => tAsg (tVar i) (gName j)) D')) ta)) D ρ := fun O σ F H e S => h O σ F H S _ fun vs F1 H1 e1 h1 S1 d1 => by
  refine ⟨ds, d1, .inr ⟨C, hX, fun H' e2 => ⟨he, rfl, fun a na => ?_⟩⟩⟩
  have li : i < σ.length := by rw [S1.len]; exact hi
  refine ⟨.ref a, by rw [List.getElem?_set_self li], ?_⟩
  have S2 := S1.add e2
  have fa : addF F1 H1 H' a = none := Evl.fresh_back S2.ff na
  have ef : Ex (addF F1 H1 H') (upd (addF F1 H1 H') a (.ext (Caught (.ref C) a))) := Evl.Ex.new fa
  have S3 : Sim c O ρ σ (upd (addF F1 H1 H') a (.ext (Caught (.ref C) a))) (upd H' a (.ext (Caught (.ref C) a))) := S2.grow ef (Evl.Ex.new na) (fun x hx fx => by
    rw [upd_ne (fun z => hx (by rw [z]; exact na))]; exact fx) fun x o q => by
    by_cases z : x = a
    · subst z; rw [upd_same] at q ⊢; exact q
    · rw [upd_ne z] at q ⊢; exact S2.ff x o q
  have S4 := (S3.setS (j := i) (s := .no) (o := none) trivial fun a (h : False) => h.elim).setS (j := j) (s := .exc (.ref C)) (o := some (.ref a)) ⟨a, rfl, upd_same⟩ fun a (h : False) => h.elim
  have es : ((σ.set i (some (V.ref a))).set j (some (V.ref a))).set i none = (σ.set i none).set j (some (V.ref a)) := by
    rw [List.set_comm _ _ ij.symm, List.set_set]
  show D'.nx (((σ.set i (some (V.ref a))).set j (some (V.ref a))).set i none) _
  rw [es]
  exact k O _ _ _ (e.trans ((e1.trans (addF_ex S1.ff)).trans ef)) S4
theorem go_raise {E : XK} (hE : ∀ H', Ex c.H0 H' → E (.ref C) none H') : Go c B (tRaise E C) D ρ := fun O σ F H e S => hE H S.bb
theorem q_raise {E : XK} (hE : ∀ H', Ex c.H0 H' → E (.ref C) none H') : Go c B (tSeq (tRaise E C) tz) D ρ := fun O σ F H e S => hE H S.bb
theorem ev_isC {x : Bool} {v : V} {u : Value} (h : ρ[i]? = some (.exc (.ref C))) (hC : ExcC K C) (k : ClsV v u) (e : PySem.W.kitOne K (.ref C) u = some x) : Ev c b (tCB (rIsC K) (tCons (tVar i) (tCons (tC v) tNil))) ρ (.bool x) := fun O σ F H S Q q => by
  obtain ⟨o, ho, a, rfl, fa⟩ := S.get h
  exact ⟨_, ho, a, C, v, u, x, rfl, S.ff _ _ fa, hC, k, e, q _ F H (Evl.Ex.refl _) (Evl.Ex.refl _) S (.bl _)⟩
theorem ev_isNX (h : ρ[i]? = some (.exc (.ref C))) : Ev c b (tOp (fun x y H Q => y = V.non ∧ Q (.bl (decide (x = .non))) H) (tVar i) (tC .non)) ρ (.bool false) := fun O σ F H S Q q => by
  obtain ⟨o, ho, a, rfl, fa⟩ := S.get h
  exact ⟨_, ho, rfl, q _ F H (Evl.Ex.refl _) (Evl.Ex.refl _) S (.bl _)⟩
/-- a tuple of classes -/
inductive ClsA : TA → List V → List Value → Prop
  | nil : ClsA tNil [] []
  | cons {v : V} {u : Value} {t : TA} {vs : List V} {us : List Value} (k : ClsV v u) (r : ClsA t vs us) : ClsA (tCons (tC v) t) (v :: vs) (u :: us)
theorem ClsA.run : ∀ {t : TA} {vs : List V} {us : List Value}, ClsA t vs us → Paired ClsV vs us ∧ ∀ (σ : St) (H : Hp) (Q : List V → Hp → Prop), Q vs H → t σ H Q
  | _, _, _, .nil => ⟨.nil, fun _ _ _ q => q⟩
  | _, _, _, .cons k r => ⟨.cons k r.run.1, fun σ H Q q => r.run.2 σ H _ q⟩
theorem ev_isCT {x : Bool} {t : TA} {vs : List V} {us : List Value} (h : ρ[i]? = some (.exc (.ref C))) (hC : ExcC K C) (k : ClsA t vs us) (hl : vs.length ≤ 100000) (e : PySem.W.kitAny K (.ref C) us = some x) : Ev c b (tCB (rIsCT K) (tCons (tVar i) (tCons (tTup t) tNil))) ρ (.bool x) := fun O σ F H S Q q => by
  obtain ⟨o, ho, a, rfl, fa⟩ := S.get h
  refine ⟨_, ho, k.run.2 _ _ _ ⟨Evl.sz_of hl, fun p hp => ?_⟩⟩
  have ha := S.ff _ _ fa
  refine ⟨a, C, p, vs, us, x, rfl, upd_same, by rw [upd_ne (fun z => by rw [z, hp] at ha; cases ha)]; exact ha, hC, k.run.1, e, ?_⟩
  exact q _ F _ (Evl.Ex.refl _) (Evl.Ex.new hp) (S.lay hp) (.bl _)
end
/-! defs that hand back data or raise: O ds o, what comes of ds -/
def spO (K : PySem.W.Frag) (O : List PyData → PyData ⊕ Addr → Prop) : Sp := spX K (fun ds r => O ds (.inl r)) fun ds C => O ds (.inr C)
def Out {K : PySem.W.Frag} (c : Cq K) (Q : VK) (E : XK) : PyData ⊕ Addr → Prop
  | .inl r => Rt c Q r
  | .inr C => ∀ H', Ex c.H0 H' → E (.ref C) none H'
section
variable {K : PySem.W.Frag} {c : Cq K} {B : Hp} {b : Bool} {ρ : Rho} {D D' : Ends} {ta : TA} {ds : List PyData} {r : PyData} {C : Addr} {cc : Value} {i j : Nat} {O : List PyData → PyData ⊕ Addr → Prop}
theorem ev_callO {E : XK} (h : EvA c ta ρ ds) (hR : O ds (.inl r)) : Ev c b (tCall (spO K O) [] E ta) ρ r := ev_callX h hR
theorem ez_callO {E : XK} (h : EvA c ta ρ ds) (hX : O ds (.inr C)) (hE : ∀ H', Ex c.H0 H' → E (.ref C) none H') : EvZ c (tCall (spO K O) [] E ta) ρ := ez_callX h hX hE
theorem go_dropOS {E : St → XK} (h : EvA c ta ρ ds) (hR : O ds (.inl r)) (k : Nx c B D ρ) : Go c B (tDrop (tCallS (spO K O) E ta)) D ρ := go_dropXS h hR k
theorem go_dropOK (h : EvA c ta ρ ds) (hX : O ds (.inr C)) (he : PySem.W.exmOne K (.ref C) cc = some true) (hi : i < ρ.length) (k : Nx c B D' ((ρ.set i .no).set j (.exc (.ref C)))) (ij : i ≠ j := by decide) :
    Go c B (tDrop (tCallS (spO K O) (WE (wKeep K cc i (fun _ => tAsg (tVar i) (gName j)) D')) ta)) D ρ := go_dropXK h hX he hi k ij
end
section
variable {P : Program} {w : World} {K : PySem.W.Frag} {mg : Str → Option Value} {base : Heap} {x : Str} {st : Stmt} {N ps : List Str} {k : Nat}
theorem cl_O {O : List PyData → PyData ⊕ Addr → Prop} (D : Dfn K mg x st ps) (S : FnScope N ps (defScope st)) (hlen : ∀ ds o, O ds o → ds.length = ps.length)
    (hbody : ∀ (f : Addr) (cdv : Value) (A : Around) (outer : List Env) (s : Shared) (H : Hp) (E : XK), Room k (A.deeper (envOfC x (defScope st) s.heap.objs.size f cdv)) →
      ∃ t, PSs (cxOf (L2.CX P w) P w K mg base N x (defScope st) f cdv A outer s H E) (defBody st) t ∧
        (∀ (Q : VK) (c : Cq K) ds o, O ds o → Out c Q E o → Go c c.H0 t { nx := fun _ H' => Q .non H', rt := Q } (ds.map (Sl.val false) ++ List.replicate (N.length - ds.length) Sl.no))) :
    Cl P w K mg base (L2.CX P w) (k + 1) x (spO K O) :=
  cl_X D S (fun ds r h => hlen ds _ h) (fun ds C h => hlen ds _ h) fun f cdv A outer s H E hr => by
    obtain ⟨t, h1, h2⟩ := hbody f cdv A outer s H E hr
    exact ⟨t, h1, fun Q c ds r hR hQ => h2 Q c ds (.inl r) hR hQ, fun Q c ds C hX hE => h2 Q c ds (.inr C) hX hE⟩
end
theorem kit_ref {K : PySem.W.Frag} {C : Addr} {cls : Value} {b : Bool} (hs : PySem.W.subIn K cls cls = some true) (hd : PySem.W.hasDictIn K C = true) (ht : PySem.W.typeIn K (.ref C) = some (.type "type")) (h4 : PySem.W.subIn K cls (.ref C) = some b) : PySem.W.kitOne K cls (.ref C) = some b := by
  obtain ⟨cd, hc, _⟩ := PySem.W.any_some hd
  have e2 : ((PySem.W.clsIn K C).isSome && PySem.W.typeIn K (.ref C) == some (.type "type")) = true := by rw [hc, ht] <;> rfl
  show (if (cls == .ref C) = true then some true else (if ((PySem.W.clsIn K C).isSome && PySem.W.typeIn K (.ref C) == some (.type "type")) = true then PySem.W.subIn K cls (.ref C) else none)) = some b
  by_cases e : (cls == .ref C) = true
  · rw [if_pos e]
    have e' : cls = .ref C := beq_iff_eq.mp e
    rw [← e', hs] at h4
    exact h4
  · rw [if_neg e, if_pos e2]
    exact h4
theorem kit_ve {K : PySem.W.Frag} {C : Addr} {b : Bool} (h4 : PySem.W.subIn K (.ref C) (.type "ValueError") = some b) : PySem.W.kitOne K (.ref C) (.type "ValueError") = some b := by
  have e2 : PySem.W.kitMeta "ValueError" = true := by decide +kernel
  show (if ((Value.ref C) == .type "ValueError") = true then some true else (if PySem.W.kitMeta "ValueError" = true then PySem.W.subIn K (.ref C) (.type "ValueError") else none)) = some b
  rw [if_neg (show ¬ (((Value.ref C) == .type "ValueError") = true) from by simp), if_pos e2]
  exact h4
end DL

end
section
set_option maxRecDepth 100000
set_option maxHeartbeats 2000000
/-! the order of works: plain facts -/
namespace MQ
open PySem L2 DL
def InR (m : Nat) (prs : List (Int × Int)) : Prop := ∀ p ∈ prs, 0 ≤ p.1 ∧ p.1 < (m : Int) ∧ 0 ≤ p.2 ∧ p.2 < (m : Int)
/-- x may be next behind f, the least that may -/
structure Step (m : Nat) (prs : List (Int × Int)) (f : List Int) (x : Int) : Prop where
  lo : 0 ≤ x
  hi : x < (m : Int)
  new : x ∉ f
  ready : ∀ p ∈ prs, p.2 = x → p.1 ∈ f
  least : ∀ y, 0 ≤ y → y < x → y ∉ f → ∃ p ∈ prs, p.2 = y ∧ p.1 ∉ f
def Ord (m : Nat) (prs : List (Int × Int)) (f : List Int) : Prop := ∀ (k : Nat) (x : Int), f[k]? = some x → Step m prs (f.take k) x
structure IsOrd (m : Nat) (prs : List (Int × Int)) (os : List Int) : Prop where
  inr : InR m prs
  ord : Ord m prs os
  len : os.length = m
variable {m : Nat} {prs : List (Int × Int)} {f g : List Int} {x y : Int}
theorem Step.uniq (h : Step m prs f x) (g : Step m prs f y) : x = y := by
  rcases Int.lt_trichotomy x y with q | q | q
  · obtain ⟨p, hp, e, n⟩ := g.least x h.lo q h.new
    exact absurd (h.ready p hp e) n
  · exact q
  · obtain ⟨p, hp, e, n⟩ := h.least y g.lo q g.new
    exact absurd (g.ready p hp e) n
theorem Ord.nil : Ord m prs [] := fun k x h => by simp at h
theorem Ord.snoc (h : Ord m prs f) (s : Step m prs f x) : Ord m prs (f ++ [x]) := fun k y hy => by
  by_cases hk : k < f.length
  · rw [List.getElem?_append_left hk] at hy
    rw [List.take_append_of_le_length (by omega)]
    exact h k y hy
  · have hk2 := (List.getElem?_eq_some_iff.mp hy).1
    rw [List.length_append, List.length_singleton] at hk2
    have e : k = f.length := by omega
    subst e
    rw [List.getElem?_append_right (Nat.le_refl _), Nat.sub_self] at hy
    cases hy
    rw [List.take_left]
    exact s
theorem Ord.take_eq (h : Ord m prs f) (k' : Ord m prs g) : ∀ k, k ≤ f.length → k ≤ g.length → f.take k = g.take k
  | 0, _, _ => by simp
  | k + 1, h1, h2 => by
    have ih := Ord.take_eq h k' k (by omega) (by omega)
    have e1 : f[k]? = some f[k] := List.getElem?_eq_getElem (by omega)
    have e2 : g[k]? = some g[k] := List.getElem?_eq_getElem (by omega)
    have s1 := h k _ e1
    have s2 := k' k _ e2
    rw [ih] at s1
    rw [List.take_add_one, List.take_add_one, ih, e1, e2, s1.uniq s2]
theorem Ord.uniq (h : Ord m prs f) (k : Ord m prs g) (e : f.length = g.length) : f = g := by
  have := h.take_eq k f.length (Nat.le_refl _) (by omega)
  rw [List.take_length, List.take_of_length_le (by omega)] at this
  exact this
theorem Ord.bd (h : Ord m prs f) (hx : x ∈ f) : 0 ≤ x ∧ x < (m : Int) := by
  obtain ⟨k, hk⟩ := List.getElem?_of_mem hx
  exact ⟨(h k x hk).lo, (h k x hk).hi⟩
theorem Ord.nodup (h : Ord m prs f) : f.Nodup := by
  rw [List.nodup_iff_pairwise_ne, List.pairwise_iff_getElem]
  intro i j hi hj hij e
  have s := h j f[j] (List.getElem?_eq_getElem hj)
  exact s.new (by rw [← e]; exact List.mem_take_iff_getElem.mpr ⟨i, by omega, rfl⟩)
theorem len_sub : ∀ {l l2 : List Int}, l.Nodup → (∀ x ∈ l, x ∈ l2) → l.length ≤ l2.length
  | [], _, _, _ => by simp
  | a :: r, l2, hn, h => by
    obtain ⟨h1, h2⟩ := List.nodup_cons.mp hn
    have ha := h a (by simp)
    have := len_sub (l := r) (l2 := l2.erase a) h2 fun x hx => (List.mem_erase_of_ne (fun e => h1 (by rw [← e]; exact hx))).mpr (h x (by simp [hx]))
    rw [List.length_erase_of_mem ha] at this
    have := List.length_pos_of_mem ha
    rw [List.length_cons]
    omega
theorem IsOrd.dag (h : IsOrd m prs f) : Dag m prs := by
  have nd := h.ord.nodup
  have all : ∀ z : Int, 0 ≤ z → z < (m : Int) → z ∈ f := fun z h0 h1 => by
    apply Classical.byContradiction
    intro hz
    have sub : (z :: f).length ≤ ((List.range m).map fun i : Nat => (i : Int)).length := by
      refine len_sub (List.nodup_cons.mpr ⟨hz, nd⟩) fun u hu => ?_
      rw [List.mem_map]
      rcases List.mem_cons.mp hu with rfl | hu
      · exact ⟨u.toNat, List.mem_range.mpr (by omega), by omega⟩
      · have := h.ord.bd hu
        exact ⟨u.toNat, List.mem_range.mpr (by omega), by omega⟩
    have := sub
    rw [List.length_cons, List.length_map, List.length_range, h.len] at this
    omega
  refine ⟨fun z => f.idxOf z, fun p hp => ?_⟩
  obtain ⟨a1, a2, a3, a4⟩ := h.inr p hp
  refine ⟨a1, a2, a3, a4, ?_⟩
  obtain ⟨j, hj⟩ := List.getElem?_of_mem (all p.2 a3 a4)
  have s := h.ord j p.2 hj
  have ha := s.ready p hp rfl
  obtain ⟨i, hi, e⟩ := List.mem_take_iff_getElem.mp ha
  have e1 : f[i]? = some p.1 := by rw [← e]; exact List.getElem?_eq_getElem (by omega)
  show f.idxOf p.1 < f.idxOf p.2
  rw [idxOf_get nd e1, idxOf_get nd hj]
  omega
theorem exists_new (h : Ord m prs f) (hl : f.length < m) : ∃ z : Int, 0 ≤ z ∧ z < (m : Int) ∧ z ∉ f := by
  apply Classical.byContradiction
  intro hn
  have sub : ((List.range m).map fun i : Nat => (i : Int)).length ≤ f.length := by
    refine len_sub ?_ fun u hu => ?_
    · rw [List.nodup_iff_pairwise_ne, List.pairwise_map]
      exact (List.nodup_iff_pairwise_ne.mp List.nodup_range).imp fun h => by omega
    · obtain ⟨i, hi, rfl⟩ := List.mem_map.mp hu
      have := List.mem_range.mp hi
      apply Classical.byContradiction
      intro q
      exact hn ⟨(i : Int), by omega, by omega, q⟩
  have := sub
  rw [List.length_map, List.length_range] at this
  omega
/-- what may come next, if it is told which may -/
theorem least_of (P : Int → Prop) (h : ∃ z, 0 ≤ z ∧ z < (m : Int) ∧ P z) : ∃ z, 0 ≤ z ∧ z < (m : Int) ∧ P z ∧ ∀ y, 0 ≤ y → y < z → ¬ P y := by
  obtain ⟨z, h0, h1, hz⟩ := h
  have key : ∀ n : Nat, ∀ z : Int, z.toNat = n → 0 ≤ z → z < (m : Int) → P z → ∃ z, 0 ≤ z ∧ z < (m : Int) ∧ P z ∧ ∀ y, 0 ≤ y → y < z → ¬ P y := by
    intro n
    induction n using Nat.strongRecOn with
    | _ n ih =>
      intro z e h0 h1 hz
      by_cases q : ∃ y, 0 ≤ y ∧ y < z ∧ P y
      · obtain ⟨y, y0, y1, hy⟩ := q
        exact ih y.toNat (by omega) y rfl y0 (by omega) hy
      · exact ⟨z, h0, h1, hz, fun y y0 y1 hy => q ⟨y, y0, y1, hy⟩⟩
  exact key _ z rfl h0 h1 hz
theorem rank_least (rk : Int → Nat) (P : Int → Prop) (h : ∃ z, P z) : ∃ z, P z ∧ ∀ y, P y → rk z ≤ rk y := by
  obtain ⟨z, hz⟩ := h
  have key : ∀ n : Nat, ∀ z : Int, rk z = n → P z → ∃ z, P z ∧ ∀ y, P y → rk z ≤ rk y := by
    intro n
    induction n using Nat.strongRecOn with
    | _ n ih =>
      intro z e hz
      by_cases q : ∃ y, P y ∧ rk y < rk z
      · obtain ⟨y, hy, hl⟩ := q
        exact ih (rk y) (by omega) y rfl hy
      · exact ⟨z, hz, fun y hy => by
          apply Classical.byContradiction
          intro g
          exact q ⟨y, hy, by omega⟩⟩
  exact key _ z rfl hz
theorem Dag.step (hd : Dag m prs) (h : Ord m prs f) (hl : f.length < m) : ∃ x, Step m prs f x := by
  obtain ⟨rk, hr⟩ := hd
  obtain ⟨w, ⟨w0, w1, wn⟩, wl⟩ := rank_least rk (fun z => 0 ≤ z ∧ z < (m : Int) ∧ z ∉ f) (exists_new h hl)
  have wr : ∀ p ∈ prs, p.2 = w → p.1 ∈ f := fun p hp e => by
    apply Classical.byContradiction
    intro q
    obtain ⟨b1, b2, b3, b4, b5⟩ := hr p hp
    have := wl p.1 ⟨b1, b2, q⟩
    rw [e] at b5
    omega
  obtain ⟨z, z0, z1, ⟨zn, zr⟩, zl⟩ := least_of (m := m) (fun z => z ∉ f ∧ ∀ p ∈ prs, p.2 = z → p.1 ∈ f) ⟨w, w0, w1, wn, wr⟩
  refine ⟨z, z0, z1, zn, zr, fun y y0 y1 yn => ?_⟩
  apply Classical.byContradiction
  intro q
  refine zl y y0 y1 ⟨yn, fun p hp e => ?_⟩
  apply Classical.byContradiction
  intro q2
  exact q ⟨p, hp, e, q2⟩
theorem Dag.inr (h : Dag m prs) : InR m prs := fun p hp => by
  obtain ⟨rk, hr⟩ := h
  obtain ⟨b1, b2, b3, b4, _⟩ := hr p hp
  exact ⟨b1, b2, b3, b4⟩
theorem Dag.isOrd (hd : Dag m prs) : ∃ os, IsOrd m prs os := by
  have key : ∀ k : Nat, k ≤ m → ∃ f, Ord m prs f ∧ f.length = k := by
    intro k
    induction k with
    | zero => exact fun _ => ⟨[], .nil, rfl⟩
    | succ k ih =>
      intro hk
      obtain ⟨f, hf, hl⟩ := ih (by omega)
      obtain ⟨x, hx⟩ := hd.step hf (by omega)
      exact ⟨f ++ [x], hf.snoc hx, by rw [List.length_append, hl]; rfl⟩
  obtain ⟨f, hf, hl⟩ := key m (Nat.le_refl _)
  exact ⟨f, hd.inr, hf, hl⟩
/-! the works that are left -/
/-- left: those of 0 .. m - 1 that are not in f, in their order -/
def leftOf (m : Nat) (f : List Int) : List Int := ((List.range m).map fun i : Nat => (i : Int)).filter fun z => decide (z ∉ f)
theorem mem_left : x ∈ leftOf m f ↔ 0 ≤ x ∧ x < (m : Int) ∧ x ∉ f := by
  unfold leftOf
  rw [List.mem_filter, List.mem_map, decide_eq_true_eq]
  constructor
  · rintro ⟨⟨i, hi, rfl⟩, h⟩
    have := List.mem_range.mp hi
    exact ⟨by omega, by omega, h⟩
  · rintro ⟨h0, h1, h⟩
    exact ⟨⟨x.toNat, List.mem_range.mpr (by omega), by omega⟩, h⟩
theorem left_sorted : (leftOf m f).Pairwise (· < ·) := by
  unfold leftOf
  refine List.Pairwise.filter _ ?_
  rw [List.pairwise_map]
  exact List.pairwise_lt_range.imp fun h => by omega
theorem left_nil : leftOf m [] = (List.range m).map fun i : Nat => (i : Int) := by
  unfold leftOf
  simp
theorem erase_filter {l : List Int} (hn : l.Nodup) {j : Nat} (h : l[j]? = some x) : l.eraseIdx j = l.filter fun z => decide (z ≠ x) := by
  induction l generalizing j with
  | nil => simp at h
  | cons a r ih =>
    obtain ⟨h1, h2⟩ := List.nodup_cons.mp hn
    cases j with
    | zero =>
      simp at h
      subst h
      rw [List.eraseIdx_cons_zero, List.filter_cons]
      simp
      refine (List.filter_eq_self.mpr fun z hz => ?_).symm
      simp
      rintro rfl
      exact h1 hz
    | succ j =>
      rw [List.getElem?_cons_succ] at h
      rw [List.eraseIdx_cons_succ, ih h2 h, List.filter_cons]
      have : a ≠ x := by rintro rfl; exact h1 (List.mem_of_getElem? h)
      simp [this]
theorem left_snoc {j : Nat} (h : (leftOf m f)[j]? = some x) : (leftOf m f).eraseIdx j = leftOf m (f ++ [x]) := by
  have nd : (leftOf m f).Nodup := List.nodup_iff_pairwise_ne.mpr (left_sorted.imp fun h => by omega)
  rw [erase_filter nd h]
  unfold leftOf
  rw [List.filter_filter]
  refine List.filter_congr fun z _ => ?_
  simp only [List.mem_append, List.mem_singleton]
  by_cases h1 : z = x <;> by_cases h2 : z ∈ f <;> simp [h1, h2]
theorem left_len (h : Ord m prs f) : (leftOf m f).length + f.length = m := by
  have p : (leftOf m f ++ f).Perm ((List.range m).map fun i : Nat => (i : Int)) := by
    refine (List.perm_ext_iff_of_nodup ?_ ?_).mpr fun z => ?_
    · rw [List.nodup_append]
      refine ⟨List.nodup_iff_pairwise_ne.mpr (left_sorted.imp fun h => by omega), h.nodup, fun a ha b hb e => ?_⟩
      subst e
      exact (mem_left.mp ha).2.2 hb
    · rw [List.nodup_iff_pairwise_ne, List.pairwise_map]
      exact (List.nodup_iff_pairwise_ne.mp List.nodup_range).imp fun h => by omega
    · rw [List.mem_append, mem_left, List.mem_map]
      constructor
      · rintro (⟨h0, h1, _⟩ | hz)
        · exact ⟨z.toNat, List.mem_range.mpr (by omega), by omega⟩
        · have := h.bd hz
          exact ⟨z.toNat, List.mem_range.mpr (by omega), by omega⟩
      · rintro ⟨i, hi, rfl⟩
        have := List.mem_range.mp hi
        by_cases q : (i : Int) ∈ f
        · exact .inr q
        · exact .inl ⟨by omega, by omega, q⟩
  have := p.length_eq
  rw [List.length_append, List.length_map, List.length_range] at this
  exact this
/-- whether a work needs one of some works -/
def Waits (prs : List (Int × Int)) (w : Int) (left : List Int) : Prop := ∃ p ∈ prs, p.2 = w ∧ p.1 ∈ left
/-- the first that may be next -/
theorem step_of_ready (hi : InR m prs) (wb : Int → Bool) (hw : ∀ w, wb w = true ↔ Waits prs w (leftOf m f)) {rest : List Int} (h : (leftOf m f).filter (fun w => !wb w) = x :: rest) : Step m prs f x := by
  have mx : x ∈ (leftOf m f).filter (fun w => !wb w) := by rw [h]; simp
  rw [List.mem_filter, mem_left] at mx
  obtain ⟨⟨h0, h1, h2⟩, h3⟩ := mx
  have nw : ¬ Waits prs x (leftOf m f) := fun q => by rw [(hw x).mpr q] at h3; cases h3
  refine ⟨h0, h1, h2, fun p hp e => ?_, fun y y0 y1 yn => ?_⟩
  · apply Classical.byContradiction
    intro q
    obtain ⟨b1, b2, _⟩ := hi p hp
    exact nw ⟨p, hp, e, mem_left.mpr ⟨b1, b2, q⟩⟩
  · have ys : Waits prs y (leftOf m f) := by
      apply Classical.byContradiction
      intro q
      have my : y ∈ x :: rest := by
        rw [← h, List.mem_filter, mem_left]
        refine ⟨⟨y0, by omega, yn⟩, ?_⟩
        cases e : wb y with
        | false => rfl
        | true => exact absurd ((hw y).mp e) q
      have srt : (x :: rest).Pairwise (· < ·) := by rw [← h]; exact left_sorted.filter _
      rcases List.mem_cons.mp my with rfl | my
      · omega
      · have := (List.pairwise_cons.mp srt).1 y my
        omega
    obtain ⟨p, hp, e, q⟩ := ys
    exact ⟨p, hp, e, (mem_left.mp q).2.2⟩
theorem stuck_of (wb : Int → Bool) (hw : ∀ w, wb w = true ↔ Waits prs w (leftOf m f)) (h : (leftOf m f).filter (fun w => !wb w) = []) : ¬ ∃ x, Step m prs f x := by
  rintro ⟨x, s⟩
  have mx : x ∈ (leftOf m f).filter (fun w => !wb w) := by
    rw [List.mem_filter, mem_left]
    refine ⟨⟨s.lo, s.hi, s.new⟩, ?_⟩
    cases e : wb x with
    | false => rfl
    | true =>
      obtain ⟨p, hp, e1, q⟩ := (hw x).mp e
      exact absurd (s.ready p hp e1) (mem_left.mp q).2.2
  rw [h] at mx
  cases mx
end MQ
namespace DL
open PySem L2
/-! rows of ints -/
abbrev rL (rows : List (List Int)) : PyData := .list (rows.map iL)
theorem cut1 (row : List Int) : cutL (row.map PyData.int) (some 1) none = (row.drop 1).map PyData.int := by
  rw [cutL_map]
  exact congrArg _ (cutL_from row 1)
theorem head_at {row : List Int} (h : 0 < row.length) : atI (row.map PyData.int) 0 = some (.int (row.headD 0)) := by
  cases row with
  | nil => simp at h
  | cons a r => exact atI_zero
theorem forall_set {α : Type} {p : α → Prop} {xs : List α} {x : α} (h : ∀ y ∈ xs, p y) (hx : p x) (i : Nat) : ∀ y ∈ xs.set i x, p y := fun y hy => by
  rcases List.mem_or_eq_of_mem_set hy with q | q
  · exact h y q
  · rw [q]; exact hx
theorem way_rk {m : Int} {prs : List (Int × Int)} {ws : List Int} {rk : Int → Nat} (hr : ∀ p ∈ prs, rk p.1 < rk p.2) (w : MQ.IsWay m prs ws) : ∀ (j i : Nat) (a b : Int), i < j → ws[i]? = some a → ws[j]? = some b → rk a < rk b
  | 0, i, a, b, h, _, _ => by omega
  | j + 1, i, a, b, h, ha, hb => by
    obtain ⟨x, hx⟩ : ∃ x, ws[j]? = some x := ⟨_, List.getElem?_eq_getElem (by have := (List.getElem?_eq_some_iff.mp hb).1; omega)⟩
    have s := hr _ (w.2.1 j x b hx hb)
    simp only at s
    by_cases e : i = j
    · subst e
      rw [ha] at hx
      cases hx
      exact s
    · have := way_rk hr w j i a x (by omega) ha hx
      omega
theorem way_nodup {m : Int} {k : Nat} {prs : List (Int × Int)} {ws : List Int} (hd : MQ.Dag k prs) (w : MQ.IsWay m prs ws) : ws.Nodup := by
  obtain ⟨rk, hr⟩ := hd
  rw [List.nodup_iff_pairwise_ne, List.pairwise_iff_getElem]
  intro i j hi hj hij e
  have := way_rk (rk := rk) (fun p hp => (hr p hp).2.2.2.2) w j i ws[i] ws[j] hij (List.getElem?_eq_getElem hi) (List.getElem?_eq_getElem hj)
  rw [e] at this
  omega
end DL

end
section
set_option maxRecDepth 100000
set_option maxHeartbeats 2000000
/-! picks out of displays, what is known of a lot -/
namespace DL
open PySem PySem.Spec PyProof.Rows L2
section
variable {K : PySem.W.Frag} {c : Cq K} {B : Hp} {b : Bool} {ρ : Rho} {D : Ends} {ta tb : TE} {ds : List PyData} {i : Int} {P : PyData → Prop}
theorem en_pick (ha : EvE c b ta ρ ds) (hb : EvR c tb ρ (.int i)) (h0 : 0 ≤ i) (h1 : i < (ds.length : Int)) (hP : ∀ d ∈ ds, P d) : EvN c b (tOp (rIxL K) ta tb) ρ P := by
  obtain ⟨d, hm, h⟩ := atI_some h0 h1
  exact (ev_ix ha hb h).n (hP d hm)
/-- .. of a list that is only read, of plain things -/
theorem en_pickR (ha : EvR c ta ρ (.list ds)) (hb : EvR c tb ρ (.int i)) (h0 : 0 ≤ i) (h1 : i < (ds.length : Int)) (hP : ∀ d ∈ ds, isSca d = true ∧ P d) : EvN c b (tOp (rIxL K) ta tb) ρ P := by
  obtain ⟨d, hm, h⟩ := atI_some h0 h1
  exact ((ev_ixR ha hb h).sca (hP d hm).1).n (hP d hm).2
end
/-- works that keep their bounds -/
def WkOk (w : Int × Int × Int) : Prop := 0 ≤ w.2.1 ∧ w.2.1 ≤ w.1 ∧ 0 ≤ w.2.2 ∧ Sz 250 w.1 ∧ Sz 250 w.2.1 ∧ Sz 250 w.2.2
structure Lot (M : Nat) (works : List (Int × Int × Int)) (prs : List (Int × Int)) : Prop where
  len : works.length ≤ M
  ok : ∀ w ∈ works, WkOk w
  dag : MQ.Dag works.length prs
  nl : prs.length ≤ 64
theorem nat_of {x : Int} (h : 0 ≤ x) : ∃ n : Nat, x = (n : Int) := ⟨x.toNat, by omega⟩
/-- item by item -/
structure Each {α : Type} (P : α → PyData → Prop) (xs : List α) (ds : List PyData) : Prop where
  len : ds.length = xs.length
  at_ : ∀ (i : Nat) (x : α) (d : PyData), xs[i]? = some x → ds[i]? = some d → P x d
theorem Each.nil {α : Type} {P : α → PyData → Prop} : Each P [] [] := ⟨rfl, fun i x d h => by simp at h⟩
theorem Each.snoc {α : Type} {P : α → PyData → Prop} {xs : List α} {ds : List PyData} {u : α} {h : PyData} (e : Each P xs ds) (q : P u h) : Each P (xs ++ [u]) (ds ++ [h]) := ⟨by simp [e.len], fun i x d hx hd => by
  rcases Nat.lt_or_ge i xs.length with l | l
  · rw [List.getElem?_append_left l] at hx
    rw [List.getElem?_append_left (by rw [e.len]; exact l)] at hd
    exact e.at_ i x d hx hd
  · rw [List.getElem?_append_right l] at hx
    rw [List.getElem?_append_right (by rw [e.len]; exact l), e.len] at hd
    cases k : i - xs.length with
    | zero =>
      rw [k] at hx hd
      simp at hx hd
      subst hx; subst hd
      exact q
    | succ n =>
      rw [k] at hx
      simp at hx⟩
theorem Each.map {α β : Type} {f : β → PyData} {Q : α → β → Prop} : ∀ {xs : List α} {ds : List PyData}, Each (fun x d => ∃ w, d = f w ∧ Q x w) xs ds → ∃ ws : List β, ds = ws.map f ∧ ws.length = xs.length ∧ ∀ (i : Nat) (x : α) (w : β), xs[i]? = some x → ws[i]? = some w → Q x w
  | [], [], _ => ⟨[], rfl, rfl, fun i x w h => by simp at h⟩
  | [], _ :: _, e => by have := e.len; simp at this
  | _ :: _, [], e => by have := e.len; simp at this
  | x :: xs, d :: ds, e => by
    obtain ⟨w, rfl, q⟩ := e.at_ 0 x d rfl rfl
    obtain ⟨ws, rfl, l, r⟩ := Each.map (f := f) (Q := Q) (xs := xs) (ds := ds) ⟨by have := e.len; simpa using this, fun i y z h1 h2 => e.at_ (i + 1) y z (by simpa using h1) (by simpa using h2)⟩
    refine ⟨w :: ws, rfl, by simp [l], fun i y z h1 h2 => ?_⟩
    cases i with
    | zero => simp at h1 h2; subst h1; subst h2; exact q
    | succ n => exact r n y z (by simpa using h1) (by simpa using h2)
section
variable {K : PySem.W.Frag} {c : Cq K} {b b0 : Bool} {ρ : Rho} {g : TG} {tt : TT} {te tl : TE} {ta : TA} {vs js : List Nat} {i j : Int}
theorem lc_turnN {O : Addr → Prop} {σ : St} {F1 H1 F' H' : Hp} {D : Addr} {acc : List PyData} {ys : List V} {ρ' : Rho} {p : Bool} {PP : PyData → Prop} {x : V} {d : PyData} {Pn : Hp → Prop} (I : LcInv c b O ρ σ F1 H1 D acc F' H' ys) (hD : H1 D = none) (nD : ¬ ownA ρ σ D) (dx : Dd (c.pw b0) F' x d)
    (ht : TgOk c b0 g js (wipeR ρ vs) d ρ' ∧ EvB c tt ρ' p ∧ (p = true → EvN c b te ρ' PP)) (hjs : ∀ j ∈ js, j ∈ vs) (hz : acc.length < 50000)
    (hP0 : p = false → ∀ F2 H2 ys2, LcInv c b O ρ σ F1 H1 D acc F2 H2 ys2 → Pn H2) (hP1 : p = true → ∀ h F2 H2 ys2, PP h → LcInv c b O ρ σ F1 H1 D (acc ++ [h]) F2 H2 ys2 → Pn H2) :
    g x (wipe σ vs) H' fun σ2 H2 => wipe σ2 vs = wipe σ vs ∧ tt σ2 H2 fun bb H3 => if bb = true then te σ2 H3 fun y H4 => ∃ acc, H4 D = some (.lst acc) ∧ acc.length < sizeLine ∧ Pn (upd H4 D (.lst (acc ++ [y]))) else Pn H3 := by
  obtain ⟨tg, eb, ee⟩ := ht
  have S0 : Sim c (fun a => O a ∨ a = D ∨ ownA ρ σ a) ρ σ F' H' := I.sim.sub fun a h => by
    rcases h with h | h | h
    · exact I.sim.prot a h
    · subst h; exact ⟨I.fD, by rw [I.at_]; simp⟩
    · exact I.sim.ownA_prot h
  refine tg _ _ F' H' x (S0.wipe vs) dx _ fun σ2 l2 a2 S2 => ⟨wipe_eq l2 a2 hjs, eb _ σ2 F' H' S2 _ fun F3 H3 e3 g3 S3 => ?_⟩
  cases p with
  | false =>
    refine iteF (hP0 rfl F3 H3 ys ⟨I.ef.trans e3, I.eh.trans g3, g3 _ _ I.at_, (S3.prot D (.inr (.inl rfl))).1, ?_, I.dd.ex e3⟩)
    exact I.sim.again0 e3 g3 S3.ff (fun a h => (S3.prot a (.inl h)).1) fun a h => (S3.prot a (.inr (.inr h))).1
  | true =>
    refine iteT (ee rfl _ σ2 F3 H3 S3 _ fun hd y F4 H4 hp e4 g4 S4 dy => ?_)
    have fD4 : F4 D = none := (S4.prot D (.inr (.inl rfl))).1
    refine ⟨ys, g4 _ _ (g3 _ _ I.at_), Nat.lt_of_lt_of_le (by rw [I.dd.length]; exact hz) (by decide), hP1 rfl hd F4 _ (ys ++ [y]) hp ⟨I.ef.trans (e3.trans e4), (I.eh.trans (g3.trans g4)).mut hD, upd_same, fD4, ?_, ?_⟩⟩
    · exact I.sim.again (e3.trans e4) (g3.trans g4) S4.ff (fun a h => (S4.prot a (.inl h)).1) (fun a h => (S4.prot a (.inr (.inr h))).1) nD fD4
    · exact (I.dd.ex (e3.trans e4)).append (.one dy)
theorem take_filter {α : Type} (xs : List α) (p : α → Bool) {i : Nat} {u : α} (e : xs[i]? = some u) : (xs.take (i + 1)).filter p = if p u then (xs.take i).filter p ++ [u] else (xs.take i).filter p := by
  rw [List.take_add_one, e]
  simp only [Option.toList, List.filter_append]
  cases q : p u <;> simp [q]
/-- .. whose items are known only by what holds of them -/
theorem el_lcN {α : Type} {xs : List α} {enc : α → PyData} (p : α → Bool) (P : α → PyData → Prop) (hl : EvE c b0 tl ρ (xs.map enc)) (hz : xs.length ≤ 40000) (hjs : ∀ j ∈ js, j ∈ vs)
    (ht : ∀ x ∈ xs, ∃ ρ', TgOk c b0 g js (wipeR ρ vs) (enc x) ρ' ∧ EvB c tt ρ' (p x) ∧ (p x = true → EvN c b te ρ' (P x))) :
    EvLN c b (tLc (iList K tl) g tt te vs) ρ (Each P (xs.filter p)) := fun O σ F H S Q k => by
  refine hl O σ F H S _ fun a xv F1 H1 e1 h1 S1 r1 d1 => ⟨a, rfl, ⟨_, r1⟩, fun D hD => ?_⟩
  have nD : ¬ ownA ρ σ D := fun z => (S1.ownA_prot z).2 hD
  have lenx : xv.length = xs.length := by rw [d1.length, List.length_map]
  refine lc_list (K := K) (a := a) (xs := xv) (fun i H' => ∃ ds F' ys, Each P ((xs.take i).filter p) ds ∧ LcInv c b O ρ σ F1 H1 D ds F' H' ys) ?_ ?_ ?_ ?_
  · exact ⟨[], F1, [], by simp; exact .nil, Evl.Ex.refl _, Evl.Ex.new hD, upd_same, S1.fresh hD, S1.lay hD, .nil⟩
  · rintro i H' hi ⟨ds, F', ys, E, I⟩
    exact sq_ex I.eh r1
  · rintro i x H' hx ⟨ds, F', ys, E, I⟩
    obtain ⟨d, hd, dd⟩ := d1.getV hx
    rw [List.getElem?_map] at hd
    cases hu : xs[i]? with
    | none => rw [hu] at hd; cases hd
    | some u =>
      rw [hu] at hd
      cases hd
      obtain ⟨ρ', ht'⟩ := ht u (List.mem_of_getElem? hu)
      refine lc_turnN I hD nD (dd.ex I.ef) ht' hjs ?_ (fun pf F2 H2 ys2 I2 => ⟨ds, F2, ys2, ?_, I2⟩) fun pt h F2 H2 ys2 hh I2 => ⟨ds ++ [h], F2, ys2, ?_, I2⟩
      · rw [E.len]
        have q1 := List.length_filter_le p (xs.take i)
        have q2 : (xs.take i).length ≤ xs.length := by rw [List.length_take]; omega
        omega
      · rw [take_filter xs p hu, pf]; exact E
      · rw [take_filter xs p hu, pt]; exact E.snoc hh
  · rintro H' ⟨ds, F', ys, E, I⟩
    rw [lenx, List.take_length] at E
    exact k ds D ys F' H' E (e1.trans I.ef) (h1.trans I.eh) I.sim (Evl.fresh_back h1 hD) I.fD I.at_ (fun i s o q1 q2 q3 => nD ⟨i, s, o, q1, q2, q3⟩) I.dd
theorem el_lcRN {n : Nat} (P : Nat → PyData → Prop) (hl : EvA c ta ρ [.int (n : Int)]) (hz : n ≤ 40000) (hjs : ∀ j ∈ js, j ∈ vs)
    (ht : ∀ x, x < n → ∃ ρ', TgOk c true g js (wipeR ρ vs) (.int (x : Int)) ρ' ∧ EvN c b te ρ' (P x)) :
    EvLN c b (tLc (iRng1 ta) g tYes te vs) ρ (Each P (List.range n)) := fun O σ F H S Q k => by
  refine hl O σ F H S _ fun ws F1 H1 e1 h1 S1 d1 => ?_
  cases d1 with
  | cons q1 q2 =>
    cases q1; cases q2
    refine ⟨(n : Int), rfl, by omega, by omega, fun D hD => ?_⟩
    have nD : ¬ ownA ρ σ D := fun z => (S1.ownA_prot z).2 hD
    have en : ((n : Int)).toNat = n := by omega
    rw [en]
    refine lc_range (lo := 0) (n := n) (fun i H' => ∃ ds F' ys, Each P ((List.range n).take i) ds ∧ LcInv c b O ρ σ F1 H1 D ds F' H' ys) ?_ ?_ ?_
    · exact ⟨[], F1, [], by simp; exact .nil, Evl.Ex.refl _, Evl.Ex.new hD, upd_same, S1.fresh hD, S1.lay hD, .nil⟩
    · rintro i H' hi ⟨ds, F', ys, E, I⟩
      obtain ⟨ρ', t1, t2⟩ := ht i hi
      have hu : (List.range n)[i]? = some i := by simp [hi]
      refine lc_turnN (d := .int (i : Int)) I hD nD (by rw [Int.zero_add]; exact .int _) ⟨t1, eb_yes, fun _ => t2⟩ hjs ?_ (fun pf => nomatch pf) fun pt h F2 H2 ys2 hh I2 => ⟨ds ++ [h], F2, ys2, ?_, I2⟩
      · rw [E.len, List.length_take, List.length_range]
        omega
      · rw [List.take_add_one, hu]
        exact E.snoc hh
    · rintro H' ⟨ds, F', ys, E, I⟩
      rw [List.take_of_length_le (by simp)] at E
      exact k ds D ys F' H' E (e1.trans I.ef) (h1.trans I.eh) I.sim (Evl.fresh_back h1 hD) I.fD I.at_ (fun i s o q1 q2 q3 => nD ⟨i, s, o, q1, q2, q3⟩) I.dd
end
theorem MQ.Picks.insert {m : Nat} {rs : List Int} {prs : List (Int × Int)} (h : MQ.Picks m rs prs) {i j : Nat} {x y : Int} (k : Nat) (hij : i < j) (hj : j < m) (h1 : rs[i]? = some x) (h2 : rs[j]? = some y) : MQ.Picks m rs (prs.take k ++ [(x, y)] ++ prs.drop k) := fun p hp => by
  rcases List.mem_append.mp hp with hp | hp
  · rcases List.mem_append.mp hp with hp | hp
    · exact h p (List.mem_of_mem_take hp)
    · rw [List.mem_singleton] at hp
      subst hp
      exact ⟨i, j, hij, hj, h1, h2⟩
  · exact h p (List.mem_of_mem_drop hp)
theorem MQ.Picks.sub {m : Nat} {rs : List Int} {prs prs' : List (Int × Int)} (h : MQ.Picks m rs prs) (hs : ∀ p ∈ prs', p ∈ prs) : MQ.Picks m rs prs' := fun p hp => h p (hs p hp)
/-! ### defs of whose result something holds, or that raise -/
def spY (K : PySem.W.Frag) (P : List PyData → Prop) (R : List PyData → PyData → Prop) (X : List PyData → Addr → Prop) : Sp := fun vs H Q E => ∃ ds, DdAll (T1 K) H vs ds ∧ ((P ds ∧ ∀ r v H', R ds r → Ex H H' → Dd (only fun a => H a = none) H' v r → Q v H') ∨ ∃ C, X ds C ∧ ∀ H', Ex H H' → E (.ref C) none H')
/-- .. or lists of the caller's own, where RL speaks -/
def spW (K : PySem.W.Frag) (P : List PyData → Prop) (R : List PyData → PyData → Prop) (RL : List PyData → List PyData → Prop) (X : List PyData → Addr → Prop) : Sp := fun vs H Q E => ∃ ds, DdAll (T1 K) H vs ds ∧
  ((P ds ∧ (∀ r v H', R ds r → Ex H H' → Dd (only fun a => H a = none) H' v r → Q v H') ∧ (∀ r p xs H', RL ds r → Ex H H' → H p = none → H' p = some (.lst xs) → DdAll (only fun a => H a = none ∧ a ≠ p) H' xs r → Q (.ref p) H')) ∨ ∃ C, X ds C ∧ ∀ H', Ex H H' → E (.ref C) none H')
section
variable {K : PySem.W.Frag} {c : Cq K} {B : Hp} {b b' : Bool} {ρ : Rho} {D D' : Ends} {te : TE} {ta : TA} {tl : TE} {tt : TT} {tb tz u : TS} {g : TG} {vs : List Nat} {ds : List PyData} {d r : PyData} {C : Addr} {cc : Value} {i j : Nat} {PP : List PyData → Prop} {R : List PyData → PyData → Prop} {RL : List PyData → List PyData → Prop} {Xr : List PyData → Addr → Prop}
theorem ev_callY {E : XK} (h : EvA c ta ρ ds) (hP : PP ds) : EvN c b (tCall (spY K PP R Xr) [] E ta) ρ (R ds) := fun O σ F H S Q k => h O σ F H S _ fun vs F1 H1 e1 h1 S1 d1 => by
  refine ⟨ds, by rw [List.append_nil]; exact d1, .inl ⟨hP, fun r v H' hR e2 dd => ?_⟩⟩
  exact k r v _ H' hR (e1.trans (addF_ex S1.ff)) (h1.trans e2) (S1.add e2) (dd.add S1 b)
theorem ez_callY {E : XK} (h : EvA c ta ρ ds) (hX : Xr ds C) (hE : ∀ H', Ex c.H0 H' → E (.ref C) none H') : EvZ c (tCall (spY K PP R Xr) [] E ta) ρ := fun O σ F H S Q => h O σ F H S _ fun vs F1 H1 e1 h1 S1 d1 =>
  ⟨ds, by rw [List.append_nil]; exact d1, .inr ⟨C, hX, fun H' e2 => hE H' (S1.bb.trans e2)⟩⟩
/-- the call hands something back that is dropped -/
theorem go_dropYS {E : St → XK} (h : EvA c ta ρ ds) (hP : PP ds) (k : Nx c B D ρ) : Go c B (tDrop (tCallS (spY K PP R Xr) E ta)) D ρ := fun O σ F H e S => h O σ F H S _ fun vs F1 H1 e1 h1 S1 d1 =>
  ⟨ds, d1, .inl ⟨hP, fun r v H' hR e2 dd => k O σ _ H' (e.trans (e1.trans (addF_ex S1.ff))) (S1.add e2)⟩⟩
theorem caught_nx {O : Addr → Prop} {σ : St} {F H : Hp} (S : Sim c O ρ σ F H) (e : Ex B F) (he : PySem.W.exmOne K (.ref C) cc = some true) (hi : i < ρ.length) (k : Nx c B D' ((ρ.set i .no).set j (.exc (.ref C)))) (ij : i ≠ j) : ∀ H', Ex H H' → WE (wKeep K cc i (fun _ => tAsg (tVar i) (gName j)) D') σ (.ref C) none H' := fun H' e2 => ⟨he, rfl, fun a na => by
  have li : i < σ.length := by rw [S.len]; exact hi
  refine ⟨.ref a, by rw [List.getElem?_set_self li], ?_⟩
  have S2 := S.add e2
  have fa : addF F H H' a = none := Evl.fresh_back S2.ff na
  have ef : Ex (addF F H H') (upd (addF F H H') a (.ext (Caught (.ref C) a))) := Evl.Ex.new fa
  have S3 : Sim c O ρ σ (upd (addF F H H') a (.ext (Caught (.ref C) a))) (upd H' a (.ext (Caught (.ref C) a))) := S2.grow ef (Evl.Ex.new na) (fun x hx fx => by
    rw [upd_ne (fun z => hx (by rw [z]; exact na))]; exact fx) fun x o q => by
    by_cases z : x = a
    · subst z; rw [upd_same] at q ⊢; exact q
    · rw [upd_ne z] at q ⊢; exact S2.ff x o q
  have S4 := (S3.setS (j := i) (s := .no) (o := none) trivial fun a (h : False) => h.elim).setS (j := j) (s := .exc (.ref C)) (o := some (.ref a)) ⟨a, rfl, upd_same⟩ fun a (h : False) => h.elim
  have es : ((σ.set i (some (V.ref a))).set j (some (V.ref a))).set i none = (σ.set i none).set j (some (V.ref a)) := by
    rw [List.set_comm _ _ ij.symm, List.set_set]
  show D'.nx (((σ.set i (some (V.ref a))).set j (some (V.ref a))).set i none) _
  rw [es]
  exact k O _ _ _ (e.trans ((addF_ex S.ff).trans ef)) S4⟩
/-- its error is caught -/
theorem go_dropYK (h : EvA c ta ρ ds) (hX : Xr ds C) (he : PySem.W.exmOne K (.ref C) cc = some true) (hi : i < ρ.length) (k : Nx c B D' ((ρ.set i .no).set j (.exc (.ref C)))) (ij : i ≠ j := by decide) :
    Go c B (tDrop (tCallS (spY K PP R Xr) (WE (wKeep K cc i (fun _ => tAsg (tVar i) (gName j)) D')) ta)) D ρ := fun O σ F H e S => h O σ F H S _ fun vs F1 H1 e1 h1 S1 d1 =>
  ⟨ds, d1, .inr ⟨C, hX, caught_nx S1 (e.trans e1) he hi k ij⟩⟩
theorem ev_callW {E : XK} (h : EvA c ta ρ ds) (hP : PP ds) (hno : ∀ r, ¬ RL ds r) : EvN c b (tCall (spW K PP R RL Xr) [] E ta) ρ (R ds) := fun O σ F H S Q k => h O σ F H S _ fun vs F1 H1 e1 h1 S1 d1 => by
  refine ⟨ds, by rw [List.append_nil]; exact d1, .inl ⟨hP, fun r v H' hR e2 dd => ?_, fun r p xs H' hR => (hno r hR).elim⟩⟩
  exact k r v _ H' hR (e1.trans (addF_ex S1.ff)) (h1.trans e2) (S1.add e2) (dd.add S1 b)
theorem el_callW {E : XK} (h : EvA c ta ρ ds) (hP : PP ds) (hno : ∀ r, ¬ R ds r) : EvLN c b (tCall (spW K PP R RL Xr) [] E ta) ρ (RL ds) := fun O σ F H S Q k => h O σ F H S _ fun vs F1 H1 e1 h1 S1 d1 => by
  refine ⟨ds, by rw [List.append_nil]; exact d1, .inl ⟨hP, fun r v H' hR => (hno r hR).elim, fun rl p xs H' hR e2 hp at_ dd => ?_⟩⟩
  have f1 : F1 p = none := S1.fresh hp
  let F2 : Hp := fun a => if a = p then none else addF F1 H1 H' a
  have ef : Ex F1 F2 := fun a o q => by
    show (if a = p then none else addF F1 H1 H' a) = some o
    rw [if_neg (fun z => by rw [z, f1] at q; cases q)]
    exact addF_ex S1.ff a o q
  have ff : Ex F2 H' := fun a o q => by
    have q' : (if a = p then none else addF F1 H1 H' a) = some o := q
    split at q'
    · cases q'
    · exact addF_sub S1.ff e2 a o q'
  have S2 : Sim c O ρ σ F2 H' := S1.grow ef e2 (fun a hn f0 => by
    show (if a = p then none else addF F1 H1 H' a) = none
    split
    · rfl
    · rw [addF_old hn]; exact f0) ff
  refine k rl p xs F2 H' hR (e1.trans ef) (h1.trans e2) S2 (Evl.fresh_back h1 hp) (if_pos rfl) at_ (S.notOwn (Evl.fresh_back h1 hp)) ?_
  refine dd.mono (fun a u (pa : H1 a = none ∧ a ≠ p) ra => ⟨Cq.any (Evl.fresh_back S1.bb pa.1), ?_⟩) fun _ _ (h : False) => h.elim
  have z : F2 a = addF F1 H1 H' a := if_neg pa.2
  rcases rd_add (F := F1) pa.1 ra with q | ⟨o, q⟩
  · exact .inl (z.trans q)
  · exact .inr ⟨o, z.trans q⟩
theorem ez_callW {E : XK} (h : EvA c ta ρ ds) (hX : Xr ds C) (hE : ∀ H', Ex c.H0 H' → E (.ref C) none H') : EvZ c (tCall (spW K PP R RL Xr) [] E ta) ρ := fun O σ F H S Q => h O σ F H S _ fun vs F1 H1 e1 h1 S1 d1 =>
  ⟨ds, by rw [List.append_nil]; exact d1, .inr ⟨C, hX, fun H' e2 => hE H' (S1.bb.trans e2)⟩⟩
theorem go_dropWK (h : EvA c ta ρ ds) (hX : Xr ds C) (he : PySem.W.exmOne K (.ref C) cc = some true) (hi : i < ρ.length) (k : Nx c B D' ((ρ.set i .no).set j (.exc (.ref C)))) (ij : i ≠ j := by decide) :
    Go c B (tDrop (tCallS (spW K PP R RL Xr) (WE (wKeep K cc i (fun _ => tAsg (tVar i) (gName j)) D')) ta)) D ρ := fun O σ F H e S => h O σ F H S _ fun vs F1 H1 e1 h1 S1 d1 =>
  ⟨ds, d1, .inr ⟨C, hX, caught_nx S1 (e.trans e1) he hi k ij⟩⟩
theorem en_tup {t : TA} {PA : List PyData → Prop} (h : EvFN c b t ρ PA) (hl : ∀ ds, PA ds → ds.length ≤ 100000) : EvN c b (tTup t) ρ (fun d => ∃ ds, d = .tuple ds ∧ PA ds) := fun O σ F H S Q k => h O σ F H S _ fun ds vs F1 H1 pa e1 h1 S1 d1 =>
  ⟨Evl.sz_of (by rw [d1.length]; exact hl ds pa), fun p hp => by
    have e2 : Ex H1 (upd H1 p (.tup vs)) := Evl.Ex.new hp
    have n0 : c.H0 p = none := Evl.fresh_back S1.bb hp
    refine k _ _ (addF F1 H1 (upd H1 p (.tup vs))) _ ⟨ds, rfl, pa⟩ (e1.trans (addF_ex S1.ff)) (h1.trans e2) (S1.add e2) (.tup (Cq.any n0) (.inl (by rw [addF_new hp]; exact upd_same)) (d1.ex (addF_ex S1.ff)))⟩
theorem go_retELN {PA : List PyData → Prop} (hc : ∀ a, c.NW a → c.H0 a = none) (h : EvLN c true te ρ PA) (k : ∀ ds, PA ds → RtL c D.rt ds) : Go c B (tRet te) D ρ := fun O σ F H e S => h O σ F H S _ fun ds p xs F1 H1 pa e1 h1 S1 hp fp at_ no dd => retL_sim S1 hc fp at_ dd (k ds pa)
/-- tests of which something is known -/
def EvBN {K : PySem.W.Frag} (c : Cq K) (tt : TT) (ρ : Rho) (P : Bool → Prop) : Prop := ∀ (O : Addr → Prop) (σ : St) (F H : Hp), Sim c O ρ σ F H → ∀ Q : Bool → Hp → Prop, (∀ x F' H', P x → Ex F F' → Ex H H' → Sim c O ρ σ F' H' → Q x H') → tt σ H Q
theorem eb_testN {P : Bool → Prop} (h : EvN c b te ρ (fun d => ∃ x, d = .bool x ∧ P x)) : EvBN c (tTest te) ρ P := fun O σ F H S Q k => h O σ F H S _ fun d v F1 H1 pd e1 h1 S1 d1 => by
  obtain ⟨x, rfl, px⟩ := pd
  cases d1
  exact ⟨x, rfl, k x F1 H1 px e1 h1 S1⟩
theorem en_op0 {ta tb : TE} {f : Int → Int → V} {g : Int → Int → PyData} {Pi Pj : Int → Prop} (ha : EvN c b ta ρ (fun d => ∃ i, d = .int i ∧ Pi i)) (hb : EvN c b tb ρ (fun d => ∃ j, d = .int j ∧ Pj j)) (hg : ∀ i j, Sca (f i j) (g i j)) : EvN c b (tOp (rI0 f) ta tb) ρ (fun d => ∃ i j, d = g i j ∧ Pi i ∧ Pj j) := fun O σ F H S Q k =>
  ha O σ F H S _ fun d v F1 H1 p1 e1 h1 S1 d1 => hb O σ F1 H1 S1 _ fun d' w F2 H2 p2 e2 h2 S2 d2 => by
    obtain ⟨i, rfl, pi⟩ := p1
    obtain ⟨j, rfl, pj⟩ := p2
    cases d1; cases d2
    exact ⟨i, j, rfl, rfl, k (g i j) _ F2 H2 ⟨i, j, rfl, pi, pj⟩ (e1.trans e2) (h1.trans h2) S2 (hg i j).dd⟩
theorem ev_divmod {ta tb : TE} {x y : Int} (ha : EvR c ta ρ (.int x)) (hb : EvR c tb ρ (.int y)) (hd : CDivW x y) : Ev c b (tCB (fun xs H Q => ∃ i j, xs = [V.int i, .int j] ∧ CDivP i j ∧ ∀ p, H p = none → Q (.ref p) (upd H p (.tup [.int (i / j), .int (i % j)]))) (tCons ta (tCons tb tNil))) ρ (.tuple [.int (x / y), .int (x % y)]) := fun O σ F H S Q k =>
  ha O σ F H S _ fun v F0 H0 e0 h0 S0 d0 => hb O σ F0 H0 S0 _ fun w F1 H1 e1 h1 S1 d1 => by
    cases d0; cases d1
    refine ⟨x, y, rfl, ⟨hd.1, PyProof.noPylong_of_log2 hd.2⟩, fun p hp => ?_⟩
    have e2 : Ex H1 (upd H1 p (.tup [.int (x / y), .int (x % y)])) := Evl.Ex.new hp
    have n0 : c.H0 p = none := Evl.fresh_back S1.bb hp
    exact k _ (addF F1 H1 (upd H1 p (.tup [.int (x / y), .int (x % y)]))) _ (e0.trans (e1.trans (addF_ex S1.ff))) (h0.trans (h1.trans e2)) (S1.add e2) (.tup (Cq.any n0) (.inl (by rw [addF_new hp]; exact upd_same)) (.cons (.int _) (.cons (.int _) .nil)))
theorem q_tryC {tbw : WX → TS} {ρ' : Rho} (hf : Nx c B { D with nx := tz D } ρ') (h : Nx c B { D with nx := tz D } ρ' → Go c B (tbw (wKeep K cc i (fun _ => tAsg (tVar i) (gName j)) { D with nx := tz D })) { D with nx := tz D } ρ) : Go c B (tSeq (tTryK K cc i j tbw) tz) D ρ := h hf
theorem en_neI {ta tb : TE} {j : Int} {Pi : Int → Prop} (ha : EvN c b ta ρ (fun d => ∃ i, d = .int i ∧ Pi i)) (hb : EvR c tb ρ (.int j)) : EvN c b (tOp rNe ta tb) ρ (fun d => ∃ x, d = .bool x ∧ ∃ i, x = (!decide (i = j)) ∧ Pi i) := fun O σ F H S Q k =>
  ha O σ F H S _ fun d v F1 H1 p1 e1 h1 S1 d1 => hb O σ F1 H1 S1 _ fun w F2 H2 e2 h2 S2 d2 => by
    obtain ⟨i, rfl, pi⟩ := p1
    have q := scal_of d1 d2 rfl
    refine ⟨q.1, ?_⟩
    rw [q.2]
    exact k (.bool (!decide (i = j))) _ F2 H2 ⟨_, rfl, i, rfl, pi⟩ (e1.trans e2) (h1.trans h2) S2 (by show Dd _ _ (V.bl (!(i == j))) _; rw [Bool.beq_eq_decide_eq]; exact .bl _)
theorem eb_orN {tu : TT} {x : Bool} {P : Bool → Prop} (h : EvB c tt ρ x) (h2 : x = false → EvBN c tu ρ P) (hx : x = true → P true) : EvBN c (tOr tt tu) ρ P := fun O σ F H S Q k => h O σ F H S _ fun F1 H1 e1 h1 S1 => by
  cases x with
  | true => exact iteT (k true F1 H1 (hx rfl) e1 h1 S1)
  | false => exact iteF (h2 rfl O σ F1 H1 S1 Q fun y F2 H2 p e2 h2 S2 => k y F2 H2 p (e1.trans e2) (h1.trans h2) S2)
theorem q_whenN {P : Bool → Prop} (h : EvBN c tt ρ P) (h1 : P true → Go c B tb { D with nx := tz D } ρ) (h2 : P false → Go c B tz D ρ) : Go c B (tSeq (tIfS tt tb tNext) tz) D ρ := fun O σ F H e S => h O σ F H S _ fun x F1 H1 p e1 g1 S1 => by
  cases x with
  | true => exact iteT (h1 p O σ F1 H1 (e.trans e1) S1)
  | false => exact iteF (h2 p O σ F1 H1 (e.trans e1) S1)
/-! an error on the way -/
theorem z_for (h : EvZ c tl ρ) : Go c B (tFor (iList K tl) g tb) D ρ := fun O σ F H e S => h O σ F H S _
theorem zq_asg (h : EvZ c te ρ) : Go c B (tSeq (tAsg te g) tz) D ρ := fun O σ F H e S => h O σ F H S _
theorem zq_drop (h : EvZ c te ρ) : Go c B (tSeq (tDrop te) tz) D ρ := fun O σ F H e S => h O σ F H S _
theorem zq_for (h : EvZ c tl ρ) : Go c B (tSeq (tFor (iList K tl) g tb) tz) D ρ := fun O σ F H e S => h O σ F H S _
theorem zq_lc (h : EvZ c tl ρ) : EvZ c (tLc (iList K tl) g tt te vs) ρ := fun O σ F H S Q => h O σ F H S _
theorem z_if (h : EvZ c te ρ) : Go c B (tIfS (tTest te) tb u) D ρ := fun O σ F H e S => h O σ F H S _
theorem zq_if (h : EvZ c te ρ) : Go c B (tSeq (tIfS (tTest te) tb u) tz) D ρ := fun O σ F H e S => h O σ F H S _
theorem zq_cut (h : EvZ c te ρ) : Go c B (Evl.tCut (tIfS (tTest te) tb u) tz) D ρ := fun O σ F H e S => ⟨_, h O σ F H S _, fun _ _ h => h⟩
def EvZA {K : PySem.W.Frag} (c : Cq K) (ta : TA) (ρ : Rho) : Prop := ∀ (O : Addr → Prop) (σ : St) (F H : Hp), Sim c O ρ σ F H → ∀ Q : List V → Hp → Prop, ta σ H Q
theorem za_hd (h : EvZ c te ρ) : EvZA c (tCons te ta) ρ := fun O σ F H S Q => h O σ F H S _
theorem za_tl (h1 : EvR c te ρ d) (h : EvZA c ta ρ) : EvZA c (tCons te ta) ρ := fun O σ F H S Q => h1 O σ F H S _ fun v F1 H1 _ _ S1 _ => h O σ F1 H1 S1 _
theorem zc_cb {rr : List V → Hp → VK → Prop} (h : EvZA c ta ρ) : EvZ c (tCB rr ta) ρ := fun O σ F H S Q => h O σ F H S _
theorem zo_r' {rr : R2} {tf : TE} (h1 : EvR c tf ρ d) (h : EvZ c te ρ) : EvZ c (tOp rr tf te) ρ := fun O σ F H S Q => h1 O σ F H S _ fun v F1 H1 _ _ S1 _ => h O σ F1 H1 S1 _
end
section
variable {P : Program} {w : World} {K : PySem.W.Frag} {mg : Str → Option Value} {base : Heap} {x : Str} {st : Stmt} {N ps : List Str} {k : Nat} {PP : List PyData → Prop}
theorem cl_Y {R : List PyData → PyData → Prop} {X : List PyData → Addr → Prop} (D : Dfn K mg x st ps) (S : FnScope N ps (defScope st)) (hlen : ∀ ds, PP ds → ds.length = ps.length) (hlenX : ∀ ds C, X ds C → ds.length = ps.length)
    (hbody : ∀ (f : Addr) (cdv : Value) (A : Around) (outer : List Env) (s : Shared) (H : Hp) (E : XK), Room k (A.deeper (envOfC x (defScope st) s.heap.objs.size f cdv)) →
      ∃ t, PSs (cxOf (L2.CX P w) P w K mg base N x (defScope st) f cdv A outer s H E) (defBody st) t ∧
        (∀ (Q : VK) (c : Cq K) ds, PP ds → (∀ r, R ds r → Rt c Q r) → Go c c.H0 t { nx := fun _ H' => Q .non H', rt := Q } (ds.map (Sl.val false) ++ List.replicate (N.length - ds.length) Sl.no)) ∧
        (∀ (Q : VK) (c : Cq K) ds C, X ds C → (∀ H', Ex c.H0 H' → E (.ref C) none H') → Go c c.H0 t { nx := fun _ H' => Q .non H', rt := Q } (ds.map (Sl.val false) ++ List.replicate (N.length - ds.length) Sl.no))) :
    Cl P w K mg base (L2.CX P w) (k + 1) x (spY K PP R X) := by
  obtain ⟨f, fd, F, hm, b⟩ := D.ex
  refine ⟨f, fd, ps, F.okX S (fun vs H Q E h => ?_) (fun cdv A outer s H vs Q E hr h => ?_), hm, F.kp, b⟩
  · obtain ⟨ds, hd, ⟨hP, _⟩ | ⟨C, hX, _⟩⟩ := h
    · rw [hd.length]; exact hlen _ hP
    · rw [hd.length]; exact hlenX _ _ hX
  · obtain ⟨t, h1, h2, h3⟩ := hbody f cdv A outer s H E hr
    have hpl : ps.length ≤ N.length := by have := congrArg List.length S.pre; rw [List.length_take] at this; omega
    refine ⟨t, h1, ?_⟩
    obtain ⟨ds, hd, ⟨hP, kk⟩ | ⟨C, hX, kk⟩⟩ := h
    · exact h2 Q ⟨H, fun a => H a = none, fun _ h => h⟩ ds hP (fun r hR v H' e dd => kk r v H' hR e dd) _ _ H H (Evl.Ex.refl _) (enter_sim hd (by rw [hd.length, hlen _ hP]; exact hpl))
    · exact h3 Q ⟨H, fun a => H a = none, fun _ h => h⟩ ds C hX kk _ _ H H (Evl.Ex.refl _) (enter_sim hd (by rw [hd.length, hlenX _ _ hX]; exact hpl))
theorem cl_W {R : List PyData → PyData → Prop} {RL : List PyData → List PyData → Prop} {X : List PyData → Addr → Prop} (D : Dfn K mg x st ps) (S : FnScope N ps (defScope st)) (hlen : ∀ ds, PP ds → ds.length = ps.length) (hlenX : ∀ ds C, X ds C → ds.length = ps.length)
    (hbody : ∀ (f : Addr) (cdv : Value) (A : Around) (outer : List Env) (s : Shared) (H : Hp) (E : XK), Room k (A.deeper (envOfC x (defScope st) s.heap.objs.size f cdv)) →
      ∃ t, PSs (cxOf (L2.CX P w) P w K mg base N x (defScope st) f cdv A outer s H E) (defBody st) t ∧
        (∀ (Q : VK) (c : Cq K) ds, PP ds → (∀ a, c.NW a → c.H0 a = none) → (∀ r, R ds r → Rt c Q r) → (∀ r, RL ds r → RtL c Q r) → Go c c.H0 t { nx := fun _ H' => Q .non H', rt := Q } (ds.map (Sl.val false) ++ List.replicate (N.length - ds.length) Sl.no)) ∧
        (∀ (Q : VK) (c : Cq K) ds C, X ds C → (∀ H', Ex c.H0 H' → E (.ref C) none H') → Go c c.H0 t { nx := fun _ H' => Q .non H', rt := Q } (ds.map (Sl.val false) ++ List.replicate (N.length - ds.length) Sl.no))) :
    Cl P w K mg base (L2.CX P w) (k + 1) x (spW K PP R RL X) := by
  obtain ⟨f, fd, F, hm, b⟩ := D.ex
  refine ⟨f, fd, ps, F.okX S (fun vs H Q E h => ?_) (fun cdv A outer s H vs Q E hr h => ?_), hm, F.kp, b⟩
  · obtain ⟨ds, hd, ⟨hP, _⟩ | ⟨C, hX, _⟩⟩ := h
    · rw [hd.length]; exact hlen _ hP
    · rw [hd.length]; exact hlenX _ _ hX
  · obtain ⟨t, h1, h2, h3⟩ := hbody f cdv A outer s H E hr
    have hpl : ps.length ≤ N.length := by have := congrArg List.length S.pre; rw [List.length_take] at this; omega
    refine ⟨t, h1, ?_⟩
    obtain ⟨ds, hd, ⟨hP, kk, kl⟩ | ⟨C, hX, kk⟩⟩ := h
    · exact h2 Q ⟨H, fun a => H a = none, fun _ h => h⟩ ds hP (fun _ h => h) (fun r hR v H' e dd => kk r v H' hR e dd) (fun r hR p xs H' e hp at_ dd => kl r p xs H' hR e hp at_ dd) _ _ H H (Evl.Ex.refl _) (enter_sim hd (by rw [hd.length, hlen _ hP]; exact hpl))
    · exact h3 Q ⟨H, fun a => H a = none, fun _ h => h⟩ ds C hX kk _ _ H H (Evl.Ex.refl _) (enter_sim hd (by rw [hd.length, hlenX _ _ hX]; exact hpl))
/-- a def that is not called: nothing is promised -/
theorem cl_none (D : Dfn K mg x st ps) (S : FnScope N ps (defScope st)) : Cl P w K mg base CX0 (k + 1) x (fun _ _ _ _ => False) := by
  obtain ⟨f, fd, F, hm, b⟩ := D.ex
  exact ⟨f, fd, ps, F.ok S (fun vs H Q E h => h.elim) (fun cdv A outer s H vs Q E hr h => h.elim), hm, F.kp, b⟩
theorem cl_noneX (D : Dfn K mg x st ps) (S : FnScope N ps (defScope st)) : Cl P w K mg base (L2.CX P w) (k + 1) x (fun _ _ _ _ => False) := by
  obtain ⟨f, fd, F, hm, b⟩ := D.ex
  exact ⟨f, fd, ps, F.okX S (fun vs H Q E h => h.elim) (fun cdv A outer s H vs Q E hr h => h.elim), hm, F.kp, b⟩
end
/-! what is never come to -/
theorem pss_false {X : Cx} {l : List Stmt} : PSs X l (fun _ _ _ => False) := ⟨fun _ _ _ _ _ _ h => h.elim⟩
/-- a need that cannot be kept beside these -/
def BadP (m : Nat) (prs : List (Int × Int)) (p : Int × Int) : Prop := ∀ prs' : List (Int × Int), (∀ q ∈ prs, q ∈ prs') → p ∈ prs' → ¬ MQ.Dag m prs'
theorem bad_out {m : Nat} {prs : List (Int × Int)} {p : Int × Int} (h : p.1 < 0 ∨ p.1 ≥ (m : Int) ∨ p.2 < 0 ∨ p.2 ≥ (m : Int)) : BadP m prs p := fun prs' _ hp hd => by
  have := hd.inr p hp
  omega
theorem bad_self {m : Nat} {prs : List (Int × Int)} {a : Int} : BadP m prs (a, a) := fun prs' hs hp ⟨rk, hr⟩ => by
  have q2 := (hr (a, a) hp).2.2.2.2
  simp only at q2
  omega
/-- a leads to one -/
def Anc (prs : List (Int × Int)) (one a : Int) : Prop := ∀ rk : Int → Nat, (∀ p ∈ prs, rk p.1 < rk p.2) → rk a < rk one
theorem bad_anc {m : Nat} {prs : List (Int × Int)} {one a : Int} (h : Anc prs one a) : BadP m prs (one, a) := fun prs' hs hp ⟨rk, hr⟩ => by
  have q1 := h rk fun p hp => (hr p (hs p hp)).2.2.2.2
  have q2 := (hr (one, a) hp).2.2.2.2
  simp only at q2
  omega
theorem Anc.step {prs : List (Int × Int)} {one : Int} {rest : List Int} {p : Int × Int} (h : ∀ a ∈ rest, Anc prs one a) (hp : p ∈ prs) (hb : p.2 ∈ one :: rest) : Anc prs one p.1 := fun rk hr => by
  have q := hr p hp
  rcases List.mem_cons.mp hb with e | e
  · rw [e] at q; exact q
  · have := h _ e rk hr; omega
end DL

end
section
set_option maxRecDepth 100000
set_option maxHeartbeats 2000000
/-! moments: earliest begins, lengths of ways -/
namespace MM
open DL
def gz (bs : List Int) (k : Int) : Int := bs.getD k.toNat 0
theorem gz_at {bs : List Int} {k : Int} (h0 : 0 ≤ k) (h1 : k < (bs.length : Int)) : bs[k.toNat]? = some (gz bs k) := by
  unfold gz
  have : k.toNat < bs.length := by omega
  simp [this]
theorem gz_atI {bs : List Int} {k : Int} (h0 : 0 ≤ k) (h1 : k < (bs.length : Int)) : L2.atI (bs.map PySem.PyData.int) k = some (.int (gz bs k)) := atI_mapS (atI_natI h0 (gz_at h0 h1))
theorem gz_of {bs : List Int} {k : Int} {x : Int} (h : bs[k.toNat]? = some x) : gz bs k = x := by
  unfold gz; simp [h]
theorem gz_mem {bs : List Int} {k : Int} (h0 : 0 ≤ k) (h1 : k < (bs.length : Int)) : gz bs k ∈ bs := List.mem_of_getElem? (gz_at h0 h1)
theorem gz_set {bs : List Int} {k j : Int} {x : Int} (h0 : 0 ≤ k) (h1 : k < (bs.length : Int)) (j0 : 0 ≤ j) : gz (bs.set k.toNat x) j = if j = k then x else gz bs j := by
  unfold gz
  rw [List.getD_eq_getElem?_getD, List.getD_eq_getElem?_getD, List.getElem?_set]
  by_cases e : j = k
  · subst e
    rw [if_pos rfl, if_pos (by omega), if_pos rfl]; rfl
  · rw [if_neg (by omega), if_neg e]
theorem gz_nonneg {bs : List Int} (h : ∀ b ∈ bs, 0 ≤ b) (k : Int) : 0 ≤ gz bs k := by
  unfold gz
  rw [List.getD_eq_getElem?_getD]
  cases e : bs[k.toNat]? with
  | none => exact Int.le_refl 0
  | some z => exact h z (List.mem_of_getElem? e)
section
variable {hs bs : List Int} {prs : List (Int × Int)} {w : Int}
/-- b is the earliest begin of w, by the begins of the works that it needs -/
structure EarlyAt (hs bs : List Int) (prs : List (Int × Int)) (w : Int) : Prop where
  ge : ∀ p ∈ prs, p.2 = w → gz bs p.1 + gz hs p.1 ≤ gz bs w
  is : (∃ p ∈ prs, p.2 = w ∧ gz bs w = gz bs p.1 + gz hs p.1) ∨ (gz bs w = 0 ∧ ∀ p ∈ prs, p.2 ≠ w)
structure Early (hs : List Int) (prs : List (Int × Int)) (bs : List Int) : Prop where
  len : bs.length = hs.length
  at_ : ∀ w, 0 ≤ w → w < (hs.length : Int) → EarlyAt hs bs prs w
/-- the sum of the hours of a way -/
def waySum (hs : List Int) (ws : List Int) : Int := (ws.map (gz hs)).sum
/-- the length: the greatest sum of a way, 0 of no works -/
structure IsLen (hs : List Int) (prs : List (Int × Int)) (x : Int) : Prop where
  ge : ∀ ws, MQ.IsWay hs.length prs ws → waySum hs ws ≤ x
  is : (∃ ws, MQ.IsWay hs.length prs ws ∧ waySum hs ws = x) ∨ (hs = [] ∧ x = 0)
theorem no_way {prs : List (Int × Int)} {ws : List Int} : ¬ MQ.IsWay (([] : List Int).length) prs ws := fun ⟨h1, _, h3⟩ => by
  have := h1 0 ws[0] (List.getElem?_eq_getElem h3)
  simp at this
  omega
theorem IsLen.uniq {x y : Int} (h : IsLen hs prs x) (g : IsLen hs prs y) : x = y := by
  rcases h.is with ⟨ws, w1, e1⟩ | ⟨e1, e2⟩
  · rcases g.is with ⟨vs, w2, f1⟩ | ⟨f1, f2⟩
    · have := h.ge _ w2
      have := g.ge _ w1
      omega
    · subst f1; exact (no_way w1).elim
  · rcases g.is with ⟨vs, w2, f1⟩ | ⟨f1, f2⟩
    · subst e1; exact (no_way w2).elim
    · rw [e2, f2]
/-! ways -/
theorem way_one {m : Int} {a : Int} (h0 : 0 ≤ a) (h1 : a < m) : MQ.IsWay m prs [a] := ⟨fun k x h => by
  cases k with
  | zero => simp at h; subst h; exact ⟨h0, h1⟩
  | succ n => simp at h, fun k x y h h' => by
  cases k with
  | zero => simp at h'
  | succ n => simp at h, by simp⟩
theorem way_snoc {m : Int} {ws : List Int} {a b : Int} (w : MQ.IsWay m prs ws) (hl : ws.getLast? = some a) (hp : (a, b) ∈ prs) (h0 : 0 ≤ b) (h1 : b < m) : MQ.IsWay m prs (ws ++ [b]) := by
  have hg : ws[ws.length - 1]? = some a := by rw [← List.getLast?_eq_getElem?]; exact hl
  refine ⟨fun k x h => ?_, fun k x y h h' => ?_, by simp⟩
  · rcases Nat.lt_or_ge k ws.length with l | l
    · rw [List.getElem?_append_left l] at h
      exact w.1 k x h
    · rw [List.getElem?_append_right l] at h
      cases e : k - ws.length with
      | zero => rw [e] at h; simp at h; subst h; exact ⟨h0, h1⟩
      | succ n => rw [e] at h; simp at h
  · rcases Nat.lt_or_ge (k + 1) ws.length with l | l
    · rw [List.getElem?_append_left l] at h'
      rw [List.getElem?_append_left (by omega)] at h
      exact w.2.1 k x y h h'
    · rw [List.getElem?_append_right l] at h'
      cases e : k + 1 - ws.length with
      | zero =>
        rw [e] at h'
        simp at h'
        subst h'
        have e2 : k = ws.length - 1 := by have := w.2.2; omega
        rw [List.getElem?_append_left (by have := w.2.2; omega), e2, hg] at h
        cases h
        exact hp
      | succ n => rw [e] at h'; simp at h'
theorem waySum_snoc {ws : List Int} {b : Int} : waySum hs (ws ++ [b]) = waySum hs ws + gz hs b := by
  unfold waySum; rw [List.map_append, List.sum_append]; simp
/-- a way is its last work alone, or a way with one work more -/
theorem way_cases {m : Int} {ws : List Int} (w : MQ.IsWay m prs ws) : ∃ b, ws.getLast? = some b ∧ 0 ≤ b ∧ b < m ∧ (ws = [b] ∨ ∃ vs a, ws = vs ++ [b] ∧ MQ.IsWay m prs vs ∧ vs.getLast? = some a ∧ (a, b) ∈ prs) := by
  rcases List.eq_nil_or_concat ws with e | ⟨vs, b, e⟩
  · have := w.2.2; rw [e] at this; simp at this
  · rw [List.concat_eq_append] at e
    subst e
    have hb : (vs ++ [b])[vs.length]? = some b := by rw [List.getElem?_append_right (Nat.le_refl _)]; simp
    obtain ⟨b0, b1⟩ := w.1 _ _ hb
    refine ⟨b, by simp, b0, b1, ?_⟩
    rcases List.eq_nil_or_concat vs with e | ⟨us, a, e⟩
    · left; rw [e]; rfl
    · right
      rw [List.concat_eq_append] at e
      subst e
      have ha : (us ++ [a] ++ [b])[us.length]? = some a := by
        rw [List.getElem?_append_left (by simp), List.getElem?_append_right (Nat.le_refl _)]; simp
      refine ⟨_, a, rfl, ⟨fun k x h => w.1 k x (by rw [List.getElem?_append_left (List.getElem?_eq_some_iff.mp h).1]; exact h), fun k x y h h' => w.2.1 k x y (by rw [List.getElem?_append_left (List.getElem?_eq_some_iff.mp h).1]; exact h) (by rw [List.getElem?_append_left (List.getElem?_eq_some_iff.mp h').1]; exact h'), by simp⟩, by simp, w.2.1 us.length a b ha (by simpa using hb)⟩
/-- a potential bounds all ways -/
theorem way_pot {m : Int} (π h : Int → Int) (h0 : ∀ w, 0 ≤ w → w < m → 0 ≤ π w) (hp : ∀ p ∈ prs, π p.1 + h p.1 ≤ π p.2) : ∀ (n : Nat) (ws : List Int) (b : Int), ws.length ≤ n → MQ.IsWay m prs ws → ws.getLast? = some b → (ws.map h).sum ≤ π b + h b
  | 0, ws, b, hn, w, hl => by have := w.2.2; omega
  | n + 1, ws, b, hn, w, hl => by
    obtain ⟨b', e1, b0, b1, e | ⟨vs, a, e, wv, la, pa⟩⟩ := way_cases w
    · rw [hl] at e1; cases e1
      rw [e]; simp
      have := h0 b b0 b1
      omega
    · rw [hl] at e1; cases e1
      have ih := way_pot π h h0 hp n vs a (by rw [e, List.length_append] at hn; simp at hn; omega) wv la
      have := hp _ pa
      rw [e, List.map_append, List.sum_append]
      simp at this ⊢
      omega
theorem Early.way_le (h : Early hs prs bs) (hn : ∀ x ∈ hs, 0 ≤ x) (hr : ∀ p ∈ prs, 0 ≤ p.2 ∧ p.2 < (hs.length : Int)) (hb : ∀ w, 0 ≤ w → w < (hs.length : Int) → 0 ≤ gz bs w) {ws : List Int} {b : Int} (w : MQ.IsWay hs.length prs ws) (hl : ws.getLast? = some b) : waySum hs ws ≤ gz bs b + gz hs b :=
  way_pot (gz bs) (gz hs) hb (fun p hp => (h.at_ p.2 (hr p hp).1 (hr p hp).2).ge p hp rfl) ws.length ws b (Nat.le_refl _) w hl
/-- each work ends a way that is done when the work is -/
theorem Early.way_is (h : Early hs prs bs) (hd : MQ.Dag hs.length prs) {w : Int} (h0 : 0 ≤ w) (h1 : w < (hs.length : Int)) : ∃ ws, MQ.IsWay hs.length prs ws ∧ ws.getLast? = some w ∧ waySum hs ws = gz bs w + gz hs w := by
  obtain ⟨rk, hr⟩ := hd
  have key : ∀ (n : Nat) (w : Int), rk w ≤ n → 0 ≤ w → w < (hs.length : Int) → ∃ ws, MQ.IsWay hs.length prs ws ∧ ws.getLast? = some w ∧ waySum hs ws = gz bs w + gz hs w := by
    intro n
    induction n with
    | zero =>
      intro w hw h0 h1
      rcases (h.at_ w h0 h1).is with ⟨p, hp, e, _⟩ | ⟨e, no⟩
      · have := (hr p hp).2.2.2.2; rw [e] at this; omega
      · exact ⟨[w], way_one h0 h1, rfl, by rw [e]; simp [waySum]⟩
    | succ n ih =>
      intro w hw h0 h1
      rcases (h.at_ w h0 h1).is with ⟨p, hp, e, e2⟩ | ⟨e, no⟩
      · have q := hr p hp
        rw [e] at q
        obtain ⟨ws, ww, wl, we⟩ := ih p.1 (by omega) q.1 q.2.1
        refine ⟨ws ++ [w], way_snoc ww wl (by rw [← e]; exact hp) h0 h1, by simp, ?_⟩
        rw [waySum_snoc, we, e2]
      · exact ⟨[w], way_one h0 h1, rfl, by rw [e]; simp [waySum]⟩
  exact key (rk w) w (Nat.le_refl _) h0 h1
theorem Early.nonneg (h : Early hs prs bs) (hd : MQ.Dag hs.length prs) (hn : ∀ x ∈ hs, 0 ≤ x) {w : Int} (h0 : 0 ≤ w) (h1 : w < (hs.length : Int)) : 0 ≤ gz bs w := by
  obtain ⟨rk, hr⟩ := hd
  have key : ∀ (n : Nat) (w : Int), rk w ≤ n → 0 ≤ w → w < (hs.length : Int) → 0 ≤ gz bs w := by
    intro n
    induction n with
    | zero =>
      intro w hw h0 h1
      rcases (h.at_ w h0 h1).is with ⟨p, hp, e, _⟩ | ⟨e, no⟩
      · have := (hr p hp).2.2.2.2; rw [e] at this; omega
      · omega
    | succ n ih =>
      intro w hw h0 h1
      rcases (h.at_ w h0 h1).is with ⟨p, hp, e, e2⟩ | ⟨e, no⟩
      · have q := hr p hp
        rw [e] at q
        have := ih p.1 (by omega) q.1 q.2.1
        have := gz_nonneg hn p.1
        omega
      · omega
  exact key (rk w) w (Nat.le_refl _) h0 h1
/-- the length by the earliest begins -/
theorem Early.isLen (h : Early hs prs bs) (hd : MQ.Dag hs.length prs) (hn : ∀ x ∈ hs, 0 ≤ x) {x : Int} (hx0 : hs = [] → x = 0)
    (hx1 : hs ≠ [] → (∃ w, 0 ≤ w ∧ w < (hs.length : Int) ∧ gz bs w + gz hs w = x) ∧ ∀ w, 0 ≤ w → w < (hs.length : Int) → gz bs w + gz hs w ≤ x) : IsLen hs prs x := by
  refine ⟨fun ws w => ?_, ?_⟩
  · have ne : hs ≠ [] := fun e => by subst e; exact no_way w
    obtain ⟨b, e1, b0, b1, _⟩ := way_cases w
    have := h.way_le hn (fun p hp => ⟨(hd.inr p hp).2.2.1, (hd.inr p hp).2.2.2⟩) (fun w h0 h1 => h.nonneg hd hn h0 h1) w e1
    have := (hx1 ne).2 b b0 b1
    omega
  · by_cases e : hs = []
    · exact .inr ⟨e, hx0 e⟩
    · obtain ⟨⟨w, w0, w1, we⟩, _⟩ := hx1 e
      obtain ⟨ws, q1, _, q2⟩ := h.way_is hd w0 w1
      exact .inl ⟨ws, q1, by rw [q2, we]⟩
theorem IsLen.nonneg (h : IsLen hs prs x) (hn : ∀ x ∈ hs, 0 ≤ x) : 0 ≤ x := by
  rcases h.is with ⟨ws, w, e⟩ | ⟨_, e⟩
  · rw [← e]
    unfold waySum
    clear e w
    induction ws with
    | nil => simp
    | cons a r ih => rw [List.map_cons, List.sum_cons]; have := gz_nonneg hn a; omega
  · omega
/-! by the order -/
structure EarlyTo (hs : List Int) (prs : List (Int × Int)) (bs : List Int) (done : List Int) : Prop where
  len : bs.length = hs.length
  at_ : ∀ w ∈ done, EarlyAt hs bs prs w
  need : ∀ w ∈ done, ∀ p ∈ prs, p.2 = w → p.1 ∈ done
  bd : ∀ w ∈ done, 0 ≤ w ∧ w < (hs.length : Int)
/-- what max with default tells -/
structure MaxD (xs : List Int) (j v : Int) : Prop where
  e : xs = [] → v = j
  n : xs ≠ [] → v ∈ xs ∧ ∀ y ∈ xs, y ≤ v
structure MinD (xs : List Int) (j v : Int) : Prop where
  e : xs = [] → v = j
  n : xs ≠ [] → v ∈ xs ∧ ∀ y ∈ xs, v ≤ y
theorem max_ex : ∀ (xs : List Int) (j : Int), ∃ v, MaxD xs j v
  | [], j => ⟨j, fun _ => rfl, fun h => absurd rfl h⟩
  | [a], j => ⟨a, fun h => by simp at h, fun _ => by simp⟩
  | a :: b :: r, j => by
    obtain ⟨v, h⟩ := max_ex (b :: r) j
    obtain ⟨h1, h2⟩ := h.n (by simp)
    by_cases q : a ≤ v
    · exact ⟨v, fun h => by simp at h, fun _ => ⟨List.mem_cons_of_mem _ h1, fun y hy => by
        rcases List.mem_cons.mp hy with e | e
        · rw [e]; exact q
        · exact h2 y e⟩⟩
    · exact ⟨a, fun h => by simp at h, fun _ => ⟨List.mem_cons_self, fun y hy => by
        rcases List.mem_cons.mp hy with e | e
        · omega
        · have := h2 y e; omega⟩⟩
theorem min_ex : ∀ (xs : List Int) (j : Int), ∃ v, MinD xs j v
  | [], j => ⟨j, fun _ => rfl, fun h => absurd rfl h⟩
  | [a], j => ⟨a, fun h => by simp at h, fun _ => by simp⟩
  | a :: b :: r, j => by
    obtain ⟨v, h⟩ := min_ex (b :: r) j
    obtain ⟨h1, h2⟩ := h.n (by simp)
    by_cases q : v ≤ a
    · exact ⟨v, fun h => by simp at h, fun _ => ⟨List.mem_cons_of_mem _ h1, fun y hy => by
        rcases List.mem_cons.mp hy with e | e
        · rw [e]; exact q
        · exact h2 y e⟩⟩
    · exact ⟨a, fun h => by simp at h, fun _ => ⟨List.mem_cons_self, fun y hy => by
        rcases List.mem_cons.mp hy with e | e
        · omega
        · have := h2 y e; omega⟩⟩
theorem EarlyTo.nil : EarlyTo hs prs (List.replicate hs.length 0) [] := ⟨by simp, fun w h => (List.not_mem_nil h).elim, fun w h => (List.not_mem_nil h).elim, fun w h => (List.not_mem_nil h).elim⟩
/-- the done moments of the works that w needs -/
def before (hs bs : List Int) (prs : List (Int × Int)) (w : Int) : List Int := (prs.filter fun p => decide (p.2 = w)).map fun p => gz bs p.1 + gz hs p.1
theorem mem_before {y : Int} : y ∈ before hs bs prs w ↔ ∃ p ∈ prs, p.2 = w ∧ y = gz bs p.1 + gz hs p.1 := by
  unfold before
  rw [List.mem_map]
  constructor
  · rintro ⟨p, hp, e⟩
    rw [List.mem_filter] at hp
    exact ⟨p, hp.1, of_decide_eq_true hp.2, e.symm⟩
  · rintro ⟨p, hp, e, e2⟩
    exact ⟨p, List.mem_filter.mpr ⟨hp, decide_eq_true e⟩, e2.symm⟩
/-- x may be done behind these -/
structure Next (m : Nat) (prs : List (Int × Int)) (done : List Int) (x : Int) : Prop where
  lo : 0 ≤ x
  hi : x < (m : Int)
  new : x ∉ done
  ready : ∀ p ∈ prs, p.2 = x → p.1 ∈ done
theorem EarlyTo.next {done : List Int} {x v : Int} (h : EarlyTo hs prs bs done) (s : Next hs.length prs done x) (hv : MaxD (before hs bs prs x) 0 v) : EarlyTo hs prs (bs.set x.toNat v) (done ++ [x]) := by
  have xl : x < (bs.length : Int) := by rw [h.len]; exact s.hi
  have old : ∀ w ∈ done, gz (bs.set x.toNat v) w = gz bs w := fun w hw => by
    rw [gz_set s.lo xl (h.bd w hw).1, if_neg (fun e => s.new (by rw [← e]; exact hw))]
  have new : gz (bs.set x.toNat v) x = v := by rw [gz_set s.lo xl s.lo, if_pos rfl]
  refine ⟨by rw [List.length_set]; exact h.len, fun w hw => ?_, fun w hw p hp e => ?_, fun w hw => ?_⟩
  · rcases List.mem_append.mp hw with hw | hw
    · have a := h.at_ w hw
      refine ⟨fun p hp e => ?_, ?_⟩
      · rw [old w hw, old p.1 (h.need w hw p hp e)]; exact a.ge p hp e
      · rcases a.is with ⟨p, hp, e, e2⟩ | ⟨e, no⟩
        · exact .inl ⟨p, hp, e, by rw [old w hw, old p.1 (h.need w hw p hp e)]; exact e2⟩
        · exact .inr ⟨by rw [old w hw]; exact e, no⟩
    · rw [List.mem_singleton] at hw
      subst hw
      have oldp : ∀ p ∈ prs, p.2 = w → gz (bs.set w.toNat v) p.1 = gz bs p.1 := fun p hp e => old p.1 (s.ready p hp e)
      refine ⟨fun p hp e => ?_, ?_⟩
      · rw [new, oldp p hp e]
        have m := (mem_before (hs := hs) (bs := bs)).mpr ⟨p, hp, e, rfl⟩
        exact (hv.n (List.ne_nil_of_mem m)).2 _ m
      · by_cases z : before hs bs prs w = []
        · right
          refine ⟨by rw [new]; exact hv.e z, fun p hp e => ?_⟩
          have m := (mem_before (hs := hs) (bs := bs)).mpr ⟨p, hp, e, rfl⟩
          rw [z] at m
          exact List.not_mem_nil m
        · obtain ⟨p, hp, e, e2⟩ := mem_before.mp (hv.n z).1
          exact .inl ⟨p, hp, e, by rw [new, oldp p hp e]; exact e2⟩
  · rcases List.mem_append.mp hw with hw | hw
    · exact List.mem_append_left _ (h.need w hw p hp e)
    · rw [List.mem_singleton] at hw
      subst hw
      exact List.mem_append_left _ (s.ready p hp e)
  · rcases List.mem_append.mp hw with hw | hw
    · exact h.bd w hw
    · rw [List.mem_singleton] at hw
      subst hw
      exact ⟨s.lo, s.hi⟩
theorem EarlyTo.step {done : List Int} {x v : Int} (h : EarlyTo hs prs bs done) (s : MQ.Step hs.length prs done x) (hi : MQ.InR hs.length prs) (hv : MaxD (before hs bs prs x) 0 v) : EarlyTo hs prs (bs.set x.toNat v) (done ++ [x]) := EarlyTo.next h ⟨s.lo, s.hi, s.new, s.ready⟩ hv
theorem ord_all {m : Nat} {os : List Int} (h : MQ.IsOrd m prs os) {w : Int} (h0 : 0 ≤ w) (h1 : w < (m : Int)) : w ∈ os := by
  have l := MQ.left_len h.ord
  rw [h.len] at l
  have e : MQ.leftOf m os = [] := List.length_eq_zero_iff.mp (by omega)
  exact Classical.byContradiction fun n => by
    have := MQ.mem_left.mpr ⟨h0, h1, n⟩
    rw [e] at this
    exact List.not_mem_nil this
theorem EarlyTo.early {os : List Int} (h : EarlyTo hs prs bs os) (ho : MQ.IsOrd hs.length prs os) : Early hs prs bs := ⟨h.len, fun w h0 h1 => h.at_ w (ord_all ho h0 h1)⟩
theorem dag_early (hd : MQ.Dag hs.length prs) : ∃ bs, Early hs prs bs := by
  obtain ⟨os, ho⟩ := hd.isOrd
  have key : ∀ i, i ≤ os.length → ∃ bs, EarlyTo hs prs bs (os.take i) := by
    intro i
    induction i with
    | zero => exact fun _ => ⟨_, by rw [List.take_zero]; exact EarlyTo.nil⟩
    | succ i ih =>
      intro hi
      obtain ⟨bs, h⟩ := ih (by omega)
      have e : os[i]? = some os[i] := List.getElem?_eq_getElem (by omega)
      obtain ⟨v, hv⟩ := max_ex (before hs bs prs os[i]) 0
      exact ⟨_, by rw [List.take_add_one, e]; exact h.step (ho.ord i _ e) hd.inr hv⟩
  obtain ⟨bs, h⟩ := key os.length (Nat.le_refl _)
  rw [List.take_length] at h
  exact ⟨bs, h.early ho⟩
theorem dag_len (hd : MQ.Dag hs.length prs) (hn : ∀ x ∈ hs, 0 ≤ x) : ∃ x, IsLen hs prs x := by
  obtain ⟨bs, h⟩ := dag_early hd
  obtain ⟨v, hv⟩ := max_ex ((List.range hs.length).map fun i : Nat => gz bs (i : Int) + gz hs (i : Int)) 0
  refine ⟨v, h.isLen hd hn (fun z => hv.e (by rw [z]; rfl)) fun z => ?_⟩
  have hl : 0 < hs.length := List.length_pos_iff.mpr z
  have q := hv.n (List.ne_nil_of_mem (List.mem_map.mpr ⟨0, List.mem_range.mpr hl, rfl⟩))
  refine ⟨?_, fun w w0 w1 => ?_⟩
  · obtain ⟨i, hi, e⟩ := List.mem_map.mp q.1
    have := List.mem_range.mp hi
    exact ⟨(i : Int), by omega, by omega, e⟩
  · exact q.2 _ (List.mem_map.mpr ⟨w.toNat, List.mem_range.mpr (by omega), by rw [show ((w.toNat : Nat) : Int) = w by omega]⟩)
/-- the last work of a longest way is done at the length -/
theorem Early.last (h : Early hs prs bs) (hd : MQ.Dag hs.length prs) (hn : ∀ x ∈ hs, 0 ≤ x) {x : Int} (hx : IsLen hs prs x) (ne : hs ≠ []) : ∃ w, 0 ≤ w ∧ w < (hs.length : Int) ∧ gz bs w + gz hs w = x := by
  rcases hx.is with ⟨ws, w, e⟩ | ⟨e, _⟩
  · obtain ⟨b, e1, b0, b1, _⟩ := way_cases w
    have q1 := h.way_le hn (fun p hp => ⟨(hd.inr p hp).2.2.1, (hd.inr p hp).2.2.2⟩) (fun w h0 h1 => h.nonneg hd hn h0 h1) w e1
    obtain ⟨vs, v1, _, v2⟩ := h.way_is hd b0 b1
    have := hx.ge vs v1
    exact ⟨b, b0, b1, by omega⟩
  · exact absurd e ne
theorem way_cons {m : Int} {ws : List Int} {a b : Int} (w : MQ.IsWay m prs ws) (hh : ws.head? = some b) (hp : (a, b) ∈ prs) (h0 : 0 ≤ a) (h1 : a < m) : MQ.IsWay m prs (a :: ws) := by
  refine ⟨fun k x h => ?_, fun k x y h h' => ?_, by simp⟩
  · cases k with
    | zero => simp at h; subst h; exact ⟨h0, h1⟩
    | succ k => exact w.1 k x (by simpa using h)
  · cases k with
    | zero =>
      simp at h h'
      subst h
      rw [List.head?_eq_getElem?, h'] at hh
      cases hh
      exact hp
    | succ k => exact w.2.1 k x y (by simpa using h) (by simpa using h')
/-- a longest way, of no works the list of none -/
def Longest (hs : List Int) (prs : List (Int × Int)) (x : Int) (ws : List Int) : Prop := (hs = [] ∧ ws = []) ∨ (MQ.IsWay hs.length prs ws ∧ waySum hs ws = x)
/-- what is found of it, from its end -/
structure Tail (hs bs : List Int) (prs : List (Int × Int)) (x : Int) (way : List Int) (here : Int) : Prop where
  last : way.getLast? = some here
  isw : MQ.IsWay hs.length prs way.reverse
  sum : waySum hs way.reverse + gz bs here = x
theorem Tail.step {x a here : Int} {way : List Int} (h : Tail hs bs prs x way here) (hp : (a, here) ∈ prs) (hi : MQ.InR hs.length prs) (e : gz bs a + gz hs a = gz bs here) : Tail hs bs prs x (way ++ [a]) a := ⟨by simp, by
  rw [List.reverse_append]
  show MQ.IsWay _ _ (a :: way.reverse)
  exact way_cons h.isw (by rw [List.head?_reverse]; exact h.last) hp (hi _ hp).1 (hi _ hp).2.1, by
  have := h.sum
  rw [List.reverse_append]
  show waySum hs (a :: way.reverse) + _ = _
  unfold waySum at this ⊢
  rw [List.map_cons, List.sum_cons]
  omega⟩
theorem gz_ext {as bs : List Int} (hl : as.length = bs.length) (h : ∀ w, 0 ≤ w → w < (as.length : Int) → gz as w = gz bs w) : as = bs := by
  refine List.ext_getElem? fun i => ?_
  rcases Nat.lt_or_ge i as.length with l | l
  · have q := h (i : Int) (by omega) (by omega)
    have a := gz_at (bs := as) (k := (i : Int)) (by omega) (by omega)
    have b := gz_at (bs := bs) (k := (i : Int)) (by omega) (by omega)
    rw [Int.toNat_natCast] at a b
    rw [a, b, q]
  · rw [List.getElem?_eq_none l, List.getElem?_eq_none (by omega)]
theorem Early.uniq {as : List Int} (h : Early hs prs bs) (g : Early hs prs as) (hd : MQ.Dag hs.length prs) : bs = as := by
  obtain ⟨rk, hr⟩ := hd
  have key : ∀ (n : Nat) (w : Int), rk w ≤ n → 0 ≤ w → w < (hs.length : Int) → gz bs w = gz as w := by
    intro n
    induction n with
    | zero =>
      intro w hw h0 h1
      have no : ∀ p ∈ prs, p.2 ≠ w := fun p hp e => by have := (hr p hp).2.2.2.2; rw [e] at this; omega
      rcases (h.at_ w h0 h1).is with ⟨p, hp, e, _⟩ | ⟨e, _⟩
      · exact absurd e (no p hp)
      · rcases (g.at_ w h0 h1).is with ⟨p, hp, e', _⟩ | ⟨e', _⟩
        · exact absurd e' (no p hp)
        · rw [e, e']
    | succ n ih =>
      intro w hw h0 h1
      have same : ∀ p ∈ prs, p.2 = w → gz bs p.1 = gz as p.1 := fun p hp e => by
        have q := hr p hp
        rw [e] at q
        exact ih p.1 (by omega) q.1 q.2.1
      rcases (h.at_ w h0 h1).is with ⟨p, hp, e, e2⟩ | ⟨e, no⟩
      · have q1 := (g.at_ w h0 h1).ge p hp e
        rw [← same p hp e, ← e2] at q1
        rcases (g.at_ w h0 h1).is with ⟨q, hq, f, f2⟩ | ⟨f, no⟩
        · have q2 := (h.at_ w h0 h1).ge q hq f
          rw [same q hq f, ← f2] at q2
          omega
        · exact absurd e (no p hp)
      · rcases (g.at_ w h0 h1).is with ⟨q, hq, f, f2⟩ | ⟨f, _⟩
        · exact absurd f (no q hq)
        · rw [e, f]
  exact gz_ext (by rw [h.len, g.len]) fun w w0 w1 => key (rk w) w (Nat.le_refl _) w0 (by rw [← h.len]; exact w1)
/-! latest begins -/
structure LateAt (hs bs : List Int) (prs : List (Int × Int)) (e w : Int) : Prop where
  le : ∀ p ∈ prs, p.1 = w → gz bs w + gz hs w ≤ gz bs p.2
  is : (∃ p ∈ prs, p.1 = w ∧ gz bs w + gz hs w = gz bs p.2) ∨ (gz bs w + gz hs w = e ∧ ∀ p ∈ prs, p.1 ≠ w)
structure Late (hs : List Int) (prs : List (Int × Int)) (e : Int) (bs : List Int) : Prop where
  len : bs.length = hs.length
  at_ : ∀ w, 0 ≤ w → w < (hs.length : Int) → LateAt hs bs prs e w
structure LateTo (hs : List Int) (prs : List (Int × Int)) (e : Int) (bs : List Int) (done : List Int) : Prop where
  len : bs.length = hs.length
  at_ : ∀ w ∈ done, LateAt hs bs prs e w
  need : ∀ w ∈ done, ∀ p ∈ prs, p.1 = w → p.2 ∈ done
  bd : ∀ w ∈ done, 0 ≤ w ∧ w < (hs.length : Int)
theorem LateTo.nil {e : Int} : LateTo hs prs e (List.replicate hs.length 0) [] := ⟨by simp, fun w h => (List.not_mem_nil h).elim, fun w h => (List.not_mem_nil h).elim, fun w h => (List.not_mem_nil h).elim⟩
/-- the begins of the works that need w -/
def behind (bs : List Int) (prs : List (Int × Int)) (w : Int) : List Int := (prs.filter fun p => decide (p.1 = w)).map fun p => gz bs p.2
theorem mem_behind {y : Int} : y ∈ behind bs prs w ↔ ∃ p ∈ prs, p.1 = w ∧ y = gz bs p.2 := by
  unfold behind
  rw [List.mem_map]
  constructor
  · rintro ⟨p, hp, e⟩
    rw [List.mem_filter] at hp
    exact ⟨p, hp.1, of_decide_eq_true hp.2, e.symm⟩
  · rintro ⟨p, hp, e, e2⟩
    exact ⟨p, List.mem_filter.mpr ⟨hp, decide_eq_true e⟩, e2.symm⟩
theorem LateTo.next {done : List Int} {x v e : Int} (h : LateTo hs prs e bs done) (lo : 0 ≤ x) (hi : x < (hs.length : Int)) (nw : x ∉ done) (ready : ∀ p ∈ prs, p.1 = x → p.2 ∈ done) (hv : MinD (behind bs prs x) e v) : LateTo hs prs e (bs.set x.toNat (v - gz hs x)) (x :: done) := by
  have xl : x < (bs.length : Int) := by rw [h.len]; exact hi
  have old : ∀ w ∈ done, gz (bs.set x.toNat (v - gz hs x)) w = gz bs w := fun w hw => by
    rw [gz_set lo xl (h.bd w hw).1, if_neg (fun e => nw (by rw [← e]; exact hw))]
  have new : gz (bs.set x.toNat (v - gz hs x)) x = v - gz hs x := by rw [gz_set lo xl lo, if_pos rfl]
  refine ⟨by rw [List.length_set]; exact h.len, fun w hw => ?_, fun w hw p hp e => ?_, fun w hw => ?_⟩
  · rcases List.mem_cons.mp hw with hw | hw
    · subst hw
      have oldp : ∀ p ∈ prs, p.1 = w → gz (bs.set w.toNat (v - gz hs w)) p.2 = gz bs p.2 := fun p hp e => old p.2 (ready p hp e)
      refine ⟨fun p hp e => ?_, ?_⟩
      · rw [new, oldp p hp e]
        have m := (mem_behind (bs := bs)).mpr ⟨p, hp, e, rfl⟩
        have := (hv.n (List.ne_nil_of_mem m)).2 _ m
        omega
      · by_cases z : behind bs prs w = []
        · right
          refine ⟨by rw [new]; have := hv.e z; omega, fun p hp e => ?_⟩
          have m := (mem_behind (bs := bs)).mpr ⟨p, hp, e, rfl⟩
          rw [z] at m
          exact List.not_mem_nil m
        · obtain ⟨p, hp, e, e2⟩ := mem_behind.mp (hv.n z).1
          exact .inl ⟨p, hp, e, by rw [new, oldp p hp e]; omega⟩
    · have a := h.at_ w hw
      refine ⟨fun p hp e => ?_, ?_⟩
      · rw [old w hw, old p.2 (h.need w hw p hp e)]; exact a.le p hp e
      · rcases a.is with ⟨p, hp, e, e2⟩ | ⟨e, no⟩
        · exact .inl ⟨p, hp, e, by rw [old w hw, old p.2 (h.need w hw p hp e)]; exact e2⟩
        · exact .inr ⟨by rw [old w hw]; exact e, no⟩
  · rcases List.mem_cons.mp hw with hw | hw
    · subst hw
      exact List.mem_cons_of_mem _ (ready p hp e)
    · exact List.mem_cons_of_mem _ (h.need w hw p hp e)
  · rcases List.mem_cons.mp hw with hw | hw
    · subst hw
      exact ⟨lo, hi⟩
    · exact h.bd w hw
/-- from the last of an order on -/
theorem ord_ready {m : Nat} {os : List Int} (h : MQ.IsOrd m prs os) (hd : MQ.Dag m prs) {k : Nat} {x : Int} (hx : os[k]? = some x) : 0 ≤ x ∧ x < (m : Int) ∧ x ∉ os.drop (k + 1) ∧ ∀ p ∈ prs, p.1 = x → p.2 ∈ os.drop (k + 1) := by
  have s := h.ord k x hx
  have nd := h.ord.nodup
  refine ⟨s.lo, s.hi, fun hm => ?_, fun p hp e => ?_⟩
  · obtain ⟨j, hj⟩ := List.getElem?_of_mem hm
    rw [List.getElem?_drop] at hj
    have a := MQ.idxOf_get nd hx
    have b := MQ.idxOf_get nd hj
    omega
  · have q := hd.inr p hp
    have mem := ord_all h q.2.2.1 q.2.2.2
    obtain ⟨j, hj⟩ := List.getElem?_of_mem mem
    have s2 := h.ord j p.2 hj
    have r := s2.ready p hp rfl
    rw [e] at r
    obtain ⟨i, hi⟩ := List.getElem?_of_mem r
    rw [List.getElem?_take] at hi
    split at hi
    · have a := MQ.idxOf_get nd hx
      have b := MQ.idxOf_get nd hi
      have : k < j := by omega
      exact List.mem_of_getElem? (i := j - (k + 1)) (by rw [List.getElem?_drop, show k + 1 + (j - (k + 1)) = j by omega]; exact hj)
    · cases hi
theorem Late.le_end {e : Int} (h : Late hs prs e bs) (hd : MQ.Dag hs.length prs) (hn : ∀ x ∈ hs, 0 ≤ x) {w : Int} (h0 : 0 ≤ w) (h1 : w < (hs.length : Int)) : gz bs w + gz hs w ≤ e := by
  obtain ⟨os, ho⟩ := hd.isOrd
  have key : ∀ (n k : Nat) (w : Int), hs.length ≤ k + n → os[k]? = some w → gz bs w + gz hs w ≤ e := by
    intro n
    induction n with
    | zero =>
      intro k w hk hw
      have := (List.getElem?_eq_some_iff.mp hw).1
      rw [ho.len] at this
      omega
    | succ n ih =>
      intro k w hk hw
      obtain ⟨w0, w1, _, rd⟩ := ord_ready ho hd hw
      rcases (h.at_ w w0 w1).is with ⟨p, hp, e1, e2⟩ | ⟨e1, _⟩
      · obtain ⟨j, hj⟩ := List.getElem?_of_mem (rd p hp e1)
        rw [List.getElem?_drop] at hj
        have := ih _ p.2 (by omega) hj
        have := gz_nonneg hn p.2
        omega
      · omega
  obtain ⟨k, hk⟩ := List.getElem?_of_mem (ord_all ho h0 h1)
  exact key hs.length k w (by omega) hk
theorem Late.ge_early {as : List Int} {x e : Int} (h : Late hs prs e bs) (g : Early hs prs as) (hd : MQ.Dag hs.length prs) (hx : IsLen hs prs x) (hle : x ≤ e) {w : Int} (h0 : 0 ≤ w) (h1 : w < (hs.length : Int)) : gz as w ≤ gz bs w := by
  obtain ⟨os, ho⟩ := hd.isOrd
  have key : ∀ (n k : Nat) (w : Int), hs.length ≤ k + n → os[k]? = some w → gz as w ≤ gz bs w := by
    intro n
    induction n with
    | zero =>
      intro k w hk hw
      have := (List.getElem?_eq_some_iff.mp hw).1
      rw [ho.len] at this
      omega
    | succ n ih =>
      intro k w hk hw
      obtain ⟨w0, w1, _, rd⟩ := ord_ready ho hd hw
      rcases (h.at_ w w0 w1).is with ⟨p, hp, e1, e2⟩ | ⟨e1, _⟩
      · obtain ⟨j, hj⟩ := List.getElem?_of_mem (rd p hp e1)
        rw [List.getElem?_drop] at hj
        have q1 := ih _ p.2 (by omega) hj
        have q := hd.inr p hp
        have q2 := (g.at_ p.2 q.2.2.1 q.2.2.2).ge p hp rfl
        rw [e1] at q2
        omega
      · obtain ⟨ws, ww, _, we⟩ := g.way_is hd w0 w1
        have := hx.ge ws ww
        omega
  obtain ⟨k, hk⟩ := List.getElem?_of_mem (ord_all ho h0 h1)
  exact key hs.length k w (by omega) hk
theorem Late.uniq {as : List Int} {e : Int} (h : Late hs prs e bs) (g : Late hs prs e as) (hd : MQ.Dag hs.length prs) : bs = as := by
  obtain ⟨os, ho⟩ := hd.isOrd
  have key : ∀ (n k : Nat) (w : Int), hs.length ≤ k + n → os[k]? = some w → gz bs w = gz as w := by
    intro n
    induction n with
    | zero =>
      intro k w hk hw
      have := (List.getElem?_eq_some_iff.mp hw).1
      rw [ho.len] at this
      omega
    | succ n ih =>
      intro k w hk hw
      obtain ⟨w0, w1, _, rd⟩ := ord_ready ho hd hw
      have same : ∀ p ∈ prs, p.1 = w → gz bs p.2 = gz as p.2 := fun p hp e1 => by
        obtain ⟨j, hj⟩ := List.getElem?_of_mem (rd p hp e1)
        rw [List.getElem?_drop] at hj
        exact ih _ p.2 (by omega) hj
      rcases (h.at_ w w0 w1).is with ⟨p, hp, e1, e2⟩ | ⟨e1, no⟩
      · have q1 := (g.at_ w w0 w1).le p hp e1
        rw [← same p hp e1] at q1
        rcases (g.at_ w w0 w1).is with ⟨q, hq, f, f2⟩ | ⟨f, no⟩
        · have q2 := (h.at_ w w0 w1).le q hq f
          rw [same q hq f] at q2
          omega
        · exact absurd e1 (no p hp)
      · rcases (g.at_ w w0 w1).is with ⟨q, hq, f, f2⟩ | ⟨f, _⟩
        · exact absurd f (no q hq)
        · omega
  refine gz_ext (by rw [h.len, g.len]) fun w w0 w1 => ?_
  rw [h.len] at w1
  obtain ⟨k, hk⟩ := List.getElem?_of_mem (ord_all ho w0 w1)
  exact key hs.length k w (by omega) hk
/-! rounds over the needs -/
structure BF (hs : List Int) (prs : List (Int × Int)) (r : Nat) (bs : List Int) : Prop where
  len : bs.length = hs.length
  nn : ∀ w, 0 ≤ gz bs w
  up : ∀ w, 0 ≤ w → w < (hs.length : Int) → ∃ ws, MQ.IsWay hs.length prs ws ∧ ws.getLast? = some w ∧ waySum hs ws = gz bs w + gz hs w
  lo : ∀ ws b, MQ.IsWay hs.length prs ws → ws.getLast? = some b → ws.length ≤ r + 1 → waySum hs ws ≤ gz bs b + gz hs b
def BFto (hs : List Int) (prs : List (Int × Int)) (r : Nat) (bs : List Int) (j : Nat) : Prop := ∀ ws, ∀ p ∈ prs.take j, MQ.IsWay hs.length prs ws → ws.getLast? = some p.1 → ws.length ≤ r + 1 → waySum hs ws ≤ gz bs p.2
theorem gz_rep (n : Nat) (w : Int) : gz (List.replicate n 0) w = 0 := by
  unfold gz
  rw [List.getD_eq_getElem?_getD, List.getElem?_replicate]
  split <;> rfl
theorem BF.zero (hn : ∀ x ∈ hs, 0 ≤ x) : BF hs prs 0 (List.replicate hs.length 0) := ⟨by simp, fun w => by rw [gz_rep]; exact Int.le_refl 0, fun w h0 h1 => ⟨[w], way_one h0 h1, rfl, by rw [gz_rep]; simp [waySum]⟩, fun ws b w hl hle => by
  obtain ⟨b', e1, b0, b1, e | ⟨vs, a, e, wv, la, pa⟩⟩ := way_cases w
  · rw [hl] at e1; cases e1
    rw [e, gz_rep]; simp [waySum]
  · have := wv.2.2
    rw [e, List.length_append, List.length_singleton] at hle
    omega⟩
theorem BFto.zero {r : Nat} : BFto hs prs r bs 0 := fun ws p hp => by rw [List.take_zero] at hp; exact (List.not_mem_nil hp).elim
theorem BF.turn {r j : Nat} {p : Int × Int} (h : BF hs prs r bs) (g : BFto hs prs r bs j) (hp : prs[j]? = some p) (hd : MQ.Dag hs.length prs) :
    BF hs prs r (bs.set p.2.toNat (max (gz bs p.2) (gz bs p.1 + gz hs p.1))) ∧ BFto hs prs r (bs.set p.2.toNat (max (gz bs p.2) (gz bs p.1 + gz hs p.1))) (j + 1) := by
  have pm := List.mem_of_getElem? hp
  obtain ⟨p0, p1, p2, p3⟩ := hd.inr p pm
  have l2 : p.2 < (bs.length : Int) := by rw [h.len]; exact p3
  generalize hv : max (gz bs p.2) (gz bs p.1 + gz hs p.1) = v
  have v1 : gz bs p.2 ≤ v := by omega
  have v2 : gz bs p.1 + gz hs p.1 ≤ v := by omega
  have eq : ∀ w, 0 ≤ w → gz (bs.set p.2.toNat v) w = if w = p.2 then v else gz bs w := fun w w0 => gz_set p2 l2 w0
  have mono : ∀ w, 0 ≤ w → gz bs w ≤ gz (bs.set p.2.toNat v) w := fun w w0 => by
    rw [eq w w0]
    split
    · rename_i e; rw [e]; exact v1
    · exact Int.le_refl _
  refine ⟨⟨by rw [List.length_set]; exact h.len, fun w => ?_, fun w w0 w1 => ?_, fun ws b w hl hle => ?_⟩, fun ws q hq w hl hle => ?_⟩
  · have q0 := h.nn p.2
    unfold gz at q0 ⊢
    rw [List.getD_eq_getElem?_getD, List.getElem?_set]
    split
    · split
      · simp; unfold gz at v1; omega
      · simp
    · have := h.nn w; unfold gz at this; rw [List.getD_eq_getElem?_getD] at this; exact this
  · rw [eq w w0]
    split
    · rename_i e
      subst e
      by_cases q : v = gz bs p.2
      · rw [q]; exact h.up p.2 w0 w1
      · have q2 : v = gz bs p.1 + gz hs p.1 := by omega
        obtain ⟨ws, ww, wl, we⟩ := h.up p.1 p0 p1
        exact ⟨ws ++ [p.2], way_snoc ww wl pm w0 w1, by simp, by rw [waySum_snoc, we, q2]⟩
    · exact h.up w w0 w1
  · have q1 := h.lo ws b w hl hle
    obtain ⟨b', e1, b0, b1, _⟩ := way_cases w
    rw [hl] at e1; cases e1
    have := mono b b0
    omega
  · rw [List.take_add_one, hp] at hq
    rcases List.mem_append.mp hq with hq | hq
    · have q1 := g ws q hq w hl hle
      have := mono q.2 (hd.inr q (List.mem_of_mem_take hq)).2.2.1
      omega
    · simp at hq
      subst hq
      rw [eq q.2 p2, if_pos rfl]
      have := h.lo ws q.1 w hl hle
      omega
theorem BF.next {r : Nat} (h : BF hs prs r bs) (g : BFto hs prs r bs prs.length) : BF hs prs (r + 1) bs := ⟨h.len, h.nn, h.up, fun ws b w hl hle => by
  obtain ⟨b', e1, b0, b1, e | ⟨vs, a, e, wv, la, pa⟩⟩ := way_cases w
  · rw [hl] at e1; cases e1
    exact h.lo ws b w hl (by rw [e]; simp)
  · rw [hl] at e1; cases e1
    rw [e, List.length_append] at hle
    simp at hle
    have := g vs (a, b) (by rw [List.take_length]; exact pa) wv la hle
    rw [e, waySum_snoc]
    simp at this
    omega⟩
theorem way_len (hd : MQ.Dag hs.length prs) {ws : List Int} (w : MQ.IsWay hs.length prs ws) : ws.length ≤ hs.length := by
  have q := MQ.len_sub (l2 := (List.range hs.length).map fun i : Nat => (i : Int)) (way_nodup hd w) fun x hx => by
    obtain ⟨k, hk⟩ := List.getElem?_of_mem hx
    have := w.1 k x hk
    exact List.mem_map.mpr ⟨x.toNat, List.mem_range.mpr (by omega), by omega⟩
  simpa using q
theorem BF.isLen (h : BF hs prs hs.length bs) (hd : MQ.Dag hs.length prs) (hn : ∀ x ∈ hs, 0 ≤ x) {v : Int} (h1 : v ∈ (List.range hs.length).map (fun i : Nat => gz bs (i : Int) + gz hs (i : Int)) ++ [0]) (h2 : ∀ y ∈ (List.range hs.length).map (fun i : Nat => gz bs (i : Int) + gz hs (i : Int)) ++ [0], y ≤ v) : IsLen hs prs v := by
  have le : ∀ w, 0 ≤ w → w < (hs.length : Int) → gz bs w + gz hs w ≤ v := fun w w0 w1 => h2 _ (List.mem_append_left _ (List.mem_map.mpr ⟨w.toNat, List.mem_range.mpr (by omega), by rw [show ((w.toNat : Nat) : Int) = w by omega]⟩))
  refine ⟨fun ws w => ?_, ?_⟩
  · obtain ⟨b, e1, b0, b1, _⟩ := way_cases w
    have := h.lo ws b w e1 (by have := way_len hd w; omega)
    have := le b b0 b1
    omega
  · by_cases z : hs = []
    · right
      subst z
      simp at h1
      exact ⟨rfl, h1⟩
    · left
      have hl : 0 < hs.length := List.length_pos_iff.mpr z
      rcases List.mem_append.mp h1 with h1 | h1
      · obtain ⟨i, hi, e⟩ := List.mem_map.mp h1
        have := List.mem_range.mp hi
        obtain ⟨ws, w, _, ew⟩ := h.up (i : Int) (by omega) (by omega)
        exact ⟨ws, w, by rw [ew, e]⟩
      · rw [List.mem_singleton] at h1
        have q1 := le 0 (by omega) (by omega)
        have q2 := h.nn 0
        have q3 := gz_nonneg hn 0
        obtain ⟨ws, w, _, ew⟩ := h.up 0 (by omega) (by omega)
        exact ⟨ws, w, by omega⟩
end
end MM
namespace DL
open PySem
def hrsL (works : List (Int × Int × Int)) : List Int := works.map fun w => w.2.1
def hrsF (works : List (Int × Int × Int)) : List Int := works.map fun w => if w.2.2 = 0 then w.2.1 else w.1
theorem hrsL_len (works : List (Int × Int × Int)) : (hrsL works).length = works.length := by unfold hrsL; rw [List.length_map]
theorem hrsF_len (works : List (Int × Int × Int)) : (hrsF works).length = works.length := by unfold hrsF; rw [List.length_map]
theorem hrsL_nn {works : List (Int × Int × Int)} (h : ∀ w ∈ works, 0 ≤ w.2.1 ∧ w.2.1 ≤ w.1) : ∀ x ∈ hrsL works, 0 ≤ x := fun x hx => by
  obtain ⟨w, hw, rfl⟩ := List.mem_map.mp hx
  have := h w hw
  omega
theorem hrsF_nn {works : List (Int × Int × Int)} (h : ∀ w ∈ works, 0 ≤ w.2.1 ∧ w.2.1 ≤ w.1) : ∀ x ∈ hrsF works, 0 ≤ x := fun x hx => by
  obtain ⟨w, hw, rfl⟩ := List.mem_map.mp hx
  have := h w hw
  split <;> omega
theorem inj_ip {a a' : List Int} {b b' : List (Int × Int)} (h : [iL a, pL b] = [iL a', pL b']) : a = a' ∧ b = b' := by
  simp only [List.cons.injEq, and_true] at h
  exact ⟨iL_inj.mp h.1, pL_inj.mp h.2⟩
theorem inj_wp {a a' : List (Int × Int × Int)} {b b' : List (Int × Int)} (h : [wL a, pL b] = [wL a', pL b']) : a = a' ∧ b = b' := by
  simp only [List.cons.injEq, and_true] at h
  exact ⟨wL_inj.mp h.1, pL_inj.mp h.2⟩
end DL

end
section
set_option maxRecDepth 100000
set_option maxHeartbeats 4000000
/-! texts -/
namespace DL
open PySem PySem.Spec PyProof.Rows L2
section
variable {K : PySem.W.Frag} {c : Cq K} {B : Hp} {b : Bool} {ρ : Rho} {D : Ends} {ta tb te tl : TE} {z : Str} {i : Int} {g : TG} {tz : TS}
/-- for sign in text -/
theorem go_forS {t : TS} (h : Ev c b tl ρ (.str z)) (I : Nat → Rho → Prop) (h0 : I 0 ρ)
    (hs : ∀ (B' : Hp) (i n : Nat) (ρ1 : Rho), z.cps.toList[i]? = some n → I i ρ1 → ∃ js ρ2, TgOk c false g js ρ1 (.str ⟨#[n]⟩) ρ2 ∧ Go c B' t { D with nx := Pst c B' (I (i + 1)), ct := Pst c B' (I (i + 1)), bk := D.nx } ρ2)
    (hd : ∀ ρ1, I z.cps.toList.length ρ1 → Nx c B D ρ1) : Go c B (tFor (iStr tl) g t) D ρ := fun O σ F H e S => by
  refine h O σ F H S _ fun v F1 H1 e1 h1 S1 d1 => ?_
  cases d1
  have sz : z.cps.toList.length = z.cps.size := Array.length_toList
  refine ⟨z, rfl, fun i m σ' H' => m = z.cps.size - i ∧ i ≤ z.cps.size ∧ Pst c F1 (I i) σ' H', ⟨z.cps.size, by omega, Nat.zero_le _, O, F1, ρ, Evl.Ex.refl _, S1, h0⟩, ?_⟩
  rintro i m σ' H' ⟨rfl, hi, p⟩
  by_cases hlt : i < z.cps.size
  · refine .inr ⟨hlt, Pst c F1 (I (i + 1)), fun σ2 H2 p2 => ⟨z.cps.size - (i + 1), by omega, rfl, hlt, p2⟩, fun x H2 y => ?_⟩
    obtain ⟨rfl, n, hn, rfl⟩ := y
    obtain ⟨O', F', ρ1, e', S', iv⟩ := p
    obtain ⟨js, ρ2, tg, go⟩ := hs F1 i n ρ1 (by rw [Array.getElem?_toList]; exact hn) iv
    exact tg O' σ' F' H2 _ S' (.str _) _ fun σ2 _ _ S2 => go O' σ2 F' H2 e' S2
  · obtain ⟨O', F', ρ1, e', S', iv⟩ := p
    have : i = z.cps.toList.length := by omega
    rw [this] at iv
    exact .inl ⟨by show z.cps.size ≤ i; omega, hd ρ1 iv O' σ' F' H' (e.trans (e1.trans e')) S'⟩
theorem q_forS {t : TS} (h : Ev c b tl ρ (.str z)) (I : Nat → Rho → Prop) (h0 : I 0 ρ)
    (hs : ∀ (B' : Hp) (i n : Nat) (ρ1 : Rho), z.cps.toList[i]? = some n → I i ρ1 → ∃ js ρ2, TgOk c false g js ρ1 (.str ⟨#[n]⟩) ρ2 ∧ Go c B' t { D with nx := Pst c B' (I (i + 1)), ct := Pst c B' (I (i + 1)), bk := tz D } ρ2)
    (hd : ∀ ρ1, I z.cps.toList.length ρ1 → Go c B tz D ρ1) : Go c B (tSeq (tFor (iStr tl) g t) tz) D ρ := go_forS (D := { D with nx := tz D }) h I h0 hs hd
theorem ev_inSg {n : Nat} (ha : EvR c ta ρ (.str ⟨#[n]⟩)) (hb : EvR c tb ρ (.str z)) : Ev c b (tOp (fun x y H Q => ∃ (c : Nat) (z : Str), x = .str ⟨#[c]⟩ ∧ y = .str z ∧ Q (.bl (decide (c ∈ z.cps.toList))) H) ta tb) ρ (.bool (decide (n ∈ z.cps.toList))) := fun O σ F H S Q k =>
  ha O σ F H S _ fun v F1 H1 e1 h1 S1 d1 => hb O σ F1 H1 S1 _ fun w F2 H2 e2 h2 S2 d2 => by
    cases d1
    cases d2
    exact ⟨n, z, rfl, rfl, k _ F2 H2 (e1.trans e2) (h1.trans h2) S2 (.bl _)⟩
theorem ev_niSg {n : Nat} (ha : EvR c ta ρ (.str ⟨#[n]⟩)) (hb : EvR c tb ρ (.str z)) : Ev c b (tOp (fun x y H Q => ∃ (c : Nat) (z : Str), x = .str ⟨#[c]⟩ ∧ y = .str z ∧ Q (.bl (!decide (c ∈ z.cps.toList))) H) ta tb) ρ (.bool (!decide (n ∈ z.cps.toList))) := fun O σ F H S Q k =>
  ha O σ F H S _ fun v F1 H1 e1 h1 S1 d1 => hb O σ F1 H1 S1 _ fun w F2 H2 e2 h2 S2 d2 => by
    cases d1
    cases d2
    exact ⟨n, z, rfl, rfl, k _ F2 H2 (e1.trans e2) (h1.trans h2) S2 (.bl _)⟩
theorem ev_eqZ {x y : Str} (ha : EvR c ta ρ (.str x)) (hb : EvR c tb ρ (.str y)) : Ev c b (tOp rEq ta tb) ρ (.bool (decide (x = y))) := (ev_eq ha hb rfl).is (by show PyData.bool (x == y) = _; rw [Bool.beq_eq_decide_eq])
theorem ev_neZ {x y : Str} (ha : EvR c ta ρ (.str x)) (hb : EvR c tb ρ (.str y)) : Ev c b (tOp rNe ta tb) ρ (.bool (!decide (x = y))) := (ev_ne ha hb rfl).is (by show PyData.bool (!(x == y)) = _; rw [Bool.beq_eq_decide_eq])
/-- int(text) -/
theorem ev_intZ {n : Int} (ha : EvR c te ρ (.str z)) (hn : PySem.intText? z = some n) (hl : z.length ≤ 640) : Ev c b (tCB (fun xs H Q => ∃ a n, xs = [V.str a] ∧ PySem.intText? a = some n ∧ a.length ≤ 640 ∧ Q (.int n) H) (tCons te tNil)) ρ (.int n) := fun O σ F H S Q k =>
  ha O σ F H S _ fun v F1 H1 e1 h1 S1 d1 => by
    cases d1
    exact ⟨z, n, rfl, hn, hl, k _ F1 H1 e1 h1 S1 (.int _)⟩
/-- text.index(sign) -/
theorem ev_indexZ {y : Str} {n : Nat} {rest : List Nat} (ha : EvR c ta ρ (.str z)) (hb : EvR c tb ρ (.str y)) (ho : Builtin.Str.occurrences z y 0 z.length 1 = n :: rest) : Ev c b (tM1 (fun x xs H Q => ∃ a b i rest, x = .str a ∧ xs = [.str b] ∧ Builtin.Str.occurrences a b 0 a.length 1 = i :: rest ∧ Q (.int (i : Nat)) H) ta tb) ρ (.int (n : Int)) := fun O σ F H S Q k =>
  ha O σ F H S _ fun v F1 H1 e1 h1 S1 d1 => by
    cases d1
    refine ⟨⟨z, rfl⟩, hb O σ F1 H1 S1 _ fun w F2 H2 e2 h2 S2 d2 => ?_⟩
    cases d2
    exact ⟨z, y, n, rest, rfl, rfl, ho, k _ F2 H2 (e1.trans e2) (h1.trans h2) S2 (.int _)⟩
/-- text * int -/
def rRepS : R2 := fun x y H Q => ∃ z n, x = .str z ∧ y = .int n ∧ 1 ≤ n ∧ n ≤ 1000 ∧ z.length ≤ 1000 ∧ ∀ z' : Str, z'.length = z.length * n.toNat → Q (.str z') H
theorem rep_len (a : Array Nat) : ∀ (k : Nat) (acc : Array Nat), ((List.replicate k a).foldl (· ++ ·) acc).size = acc.size + k * a.size
  | 0, acc => by simp
  | k + 1, acc => by
    rw [List.replicate_succ, List.foldl_cons, rep_len a k, Array.size_append, Nat.succ_mul]
    omega
theorem op_repS {X : Cx} : OpR X (binaryOp .Mult) rRepS := by
  intro pins s σ H x y v u Q I rx ry h
  obtain ⟨z, n, rfl, rfl, h1, h2, hz, q⟩ := h
  obtain ⟨t, rfl⟩ := rx
  obtain ⟨t', rfl⟩ := ry
  have lt : z.length * n.toNat ≤ 1000 * 1000 := Nat.mul_le_mul hz (by omega)
  refine PySem.P.mul_str ?_ (fun _ _ => ?_) (fun _ _ => ?_) ?_
  · rw [decide_eq_false (by omega), decide_eq_false (by omega)]
    rfl
  · have m : (z.length : Int) * n ≤ 1000 * 1000 := Int.mul_le_mul (by omega) h2 (by omega) (by decide)
    have : (z.length : Int) ≤ (2 ^ 63 - 1) / n := Int.le_ediv_of_mul_le (by omega) (by omega)
    omega
  · exact decide_eq_false (by rw [PySem.sizeLine_eq]; omega)
  · rw [if_neg (by omega)]
    have sz : (z.cps.size : Int) = z.length := rfl
    by_cases c : (n == 1 || z.length == 0) = true
    · rw [if_pos c]
      rw [Bool.or_eq_true] at c
      refine ⟨.str z, H, I, ⟨t, rfl⟩, q z ?_⟩
      rcases c with c | c
      · have : n = 1 := by simpa using c
        rw [this]
        simp
      · have : z.length = 0 := by simpa using c
        rw [this]
        simp
    · rw [if_neg c]
      refine ⟨?_, .str _, H, I.tok _, ⟨_, rfl⟩, q _ ?_⟩
      · show ((List.replicate n.toNat z.cps).foldl (· ++ ·) #[]).size ≤ _
        rw [rep_len, PySem.sizeLine_eq]
        have : n.toNat * z.cps.size ≤ 1000 * 1000 := by rw [Nat.mul_comm]; exact lt
        simp
        omega
      · show ((List.replicate n.toNat z.cps).foldl (· ++ ·) #[]).size = _
        rw [rep_len, Nat.mul_comm z.length]
        simp [Str.length]
/-- text * int, of which only the length is told -/
theorem en_repS {n : Int} (ha : EvR c ta ρ (.str z)) (hb : EvR c tb ρ (.int n)) (h1 : 1 ≤ n) (h2 : n ≤ 1000) (hz : z.length ≤ 1000) : EvN c b (tOp rRepS ta tb) ρ (fun d => ∃ z' : Str, d = .str z' ∧ z'.length = z.length * n.toNat) := fun O σ F H S Q k =>
  ha O σ F H S _ fun v F1 H1 e1 g1 S1 d1 => hb O σ F1 H1 S1 _ fun w F2 H2 e2 g2 S2 d2 => by
    cases d1
    cases d2
    exact ⟨z, n, rfl, rfl, h1, h2, hz, fun z' hl => k _ _ F2 H2 ⟨z', rfl, hl⟩ (e1.trans e2) (g1.trans g2) S2 (.str _)⟩
/-- sep.join(texts), of which only the length is told, sep empty -/
theorem en_joinZ {PN : List Str → Prop} {m : Nat} {sep : Str} (hs : sep.cps = #[]) (ha : EvR c ta ρ (.str sep)) (hb : EvN c b tb ρ (fun d => ∃ ys : List Str, d = .list (ys.map PyData.str) ∧ PN ys)) (hl : ∀ ys, PN ys → ys.length ≤ m ∧ ∀ y ∈ ys, y.length ≤ 1) (hm : m ≤ 1000) : EvN c b (tM1 (rJoin K) ta tb) ρ (fun d => ∃ ys : List Str, PN ys ∧ d = .str (Txt.join ⟨#[]⟩ ys)) := fun O σ F H S Q k =>
  ha O σ F H S _ fun v F1 H1 e1 g1 S1 d1 => by
    cases sep with
    | mk cs =>
    have hs : cs = #[] := hs
    subst hs
    cases d1
    refine ⟨⟨_, rfl⟩, hb O σ F1 H1 S1 _ fun d w F2 H2 hd e2 g2 S2 d2 => ?_⟩
    obtain ⟨ys, rfl, pn⟩ := hd
    cases d2 with
    | lst r q =>
      have e := q.strs
      subst e
      obtain ⟨h1, h2⟩ := hl ys pn
      refine ⟨⟨#[]⟩, _, ys, rfl, rfl, .inl (dd_sq Cq.kl S2.ff r), ?_, k _ _ F2 H2 ⟨ys, pn, rfl⟩ (e1.trans e2) (g1.trans g2) S2 (.str _)⟩
      have sum : ∀ l : List Str, (∀ y ∈ l, y.length ≤ 1) → (l.map (·.length)).sum ≤ l.length := fun l h => by
        induction l with
        | nil => exact Nat.le_refl _
        | cons x r ih =>
          have a := h x List.mem_cons_self
          have b := ih fun y hy => h y (List.mem_cons_of_mem _ hy)
          simp only [List.map_cons, List.sum_cons, List.length_cons]
          omega
      have := sum ys h2
      have z0 : (⟨#[]⟩ : Str).length = 0 := rfl
      rw [z0]
      omega
theorem joinL_len : ∀ ys : List (List Nat), (∀ y ∈ ys, y.length ≤ 1) → (TL.joinL [] ys).length ≤ ys.length
  | [], _ => Nat.le_refl _
  | [p], h => h p List.mem_cons_self
  | p :: q :: r, h => by
    show (p ++ ([] ++ TL.joinL [] (q :: r))).length ≤ _
    rw [List.nil_append, List.length_append, List.length_cons]
    have a := h p List.mem_cons_self
    have b := joinL_len (q :: r) fun y hy => h y (List.mem_cons_of_mem _ hy)
    omega
theorem join_lenZ (ys : List Str) (h : ∀ y ∈ ys, y.length ≤ 1) : (Txt.join ⟨#[]⟩ ys).length ≤ ys.length := by
  have e1 : (ys.map fun y : Str => y.cps.toList).map SX.S = ys := by
    rw [List.map_map]
    refine List.ext_getElem? fun i => ?_
    rw [List.getElem?_map]
    cases ys[i]? with
    | none => rfl
    | some y => exact congrArg some (SX.S_tl y)
  have e2 := SX.join_S [] (ys.map fun y : Str => y.cps.toList)
  rw [e1] at e2
  rw [show (⟨#[]⟩ : Str) = SX.S [] from rfl, e2, SX.S_len]
  refine Nat.le_trans (joinL_len _ fun y hy => ?_) (by rw [List.length_map]; exact Nat.le_refl _)
  obtain ⟨z, hz, rfl⟩ := List.mem_map.mp hy
  have := h z hz
  rw [Array.length_toList]
  exact this
theorem len_num {n : Int} {k : Nat} (n0 : 0 ≤ n) (hk : 0 < k) (h : n < (10 : Int) ^ k) : 1 ≤ (Str.ofString (toString n)).length ∧ (Str.ofString (toString n)).length ≤ k := by
  obtain ⟨m, rfl⟩ := nat_of n0
  rw [SX.num_S, SX.S_len]
  have hm : m < 10 ^ k := by
    have : ((10 ^ k : Nat) : Int) = (10 : Int) ^ k := by simp
    omega
  exact ⟨List.length_pos_iff.mpr (TL.numL_ne m), TL.numL_len hk hm⟩
/-- all signs among these -/
def allZ (z s : Str) : Bool := z.cps.toList.all fun n => decide (n ∈ s.cps.toList)
theorem allZ_no {z s : Str} {i n : Nat} (h : z.cps.toList[i]? = some n) (hn : n ∉ s.cps.toList) : allZ z s = false := by
  unfold allZ
  rw [List.all_eq_false]
  exact ⟨n, List.mem_of_getElem? h, by simp [hn]⟩
theorem allZ_yes {z s : Str} (h : ∀ (i n : Nat), z.cps.toList[i]? = some n → n ∈ s.cps.toList) : allZ z s = true := by
  unfold allZ
  rw [List.all_eq_true]
  intro n hn
  obtain ⟨i, hi⟩ := List.getElem?_of_mem hn
  exact decide_eq_true (h i n hi)
theorem addZ_len (x y : Str) : (x ++ y).length = x.length + y.length := Array.size_append
theorem toL_len (x : Str) : x.cps.toList.length = x.length := Array.length_toList
def valZ (z : Str) : Int := ((NumText.digitsVal z.cps.toList : Nat) : Int)
end
end DL

end
/-! the evaluator as a tactic -/
local macro_rules
  | `(tactic| walk_at "sz") => `(tactic| first
      | assumption
      | exact (DL.Sz.of_nat (n := 64) (by decide))
      | ((with_reducible apply DL.Sz.add2) <;> walk_at "sz")
      | ((with_reducible apply DL.Sz.sub2) <;> walk_at "sz")
      | ((with_reducible apply DL.Sz.mul) <;> walk_at "sz")
      | ((with_reducible apply DL.Sz.neg) <;> walk_at "sz")
      | ((with_reducible apply DL.Sz.div) <;> walk_at "sz")
      | decide
      | omega)
local macro_rules
  | `(tactic| walk_at "nc") => `(tactic| first
      | assumption
      | exact DL.nice_int _ _
      | exact DL.nice_iL _
      | exact DL.nice_pL _
      | exact DL.nice_wL _
      | exact DL.nice_pD _
      | exact DL.nice_wD _
      | exact DL.nice_pD (_, _)
      | exact DL.nice_wD (_, _, _)
      | exact DL.nice_iLL _
      | exact DL.nice_nil _
      | exact DL.nice_none _
      | ((with_reducible apply DL.nice_two) <;> walk_at "nc")
      | ((with_reducible apply DL.nice_three) <;> walk_at "nc"))
local macro_rules
  | `(tactic| walk_at "ln") => `(tactic| first
      | assumption
      | ((fail_if_success (with_reducible apply DL.Ln.guard)); walk_at "lm"))
local macro_rules
  | `(tactic| walk_at "lm") => `(tactic| first
      | ((with_reducible apply DL.Ln.cons) <;> walk_at "ln")
      | ((with_reducible apply DL.Ln.nil) <;> walk_at "ln")
      | ((with_reducible apply DL.Ln.app) <;> walk_at "ln")
      | ((with_reducible apply DL.Ln.cut) <;> walk_at "ln")
      | ((with_reducible apply DL.Ln.rev) <;> walk_at "ln")
      | ((with_reducible apply DL.Ln.map) <;> walk_at "ln")
      | ((with_reducible apply DL.Ln.filter) <;> walk_at "ln")
      | ((with_reducible apply DL.Ln.range) <;> walk_at "ln")
      | exact DL.Ln.mk (by first | assumption | omega))
local macro_rules
  | `(tactic| walk_at "side") => `(tactic| first
      | assumption
      | (with_reducible exact DL.Sca.int _)
      | (with_reducible exact DL.Sca.bl _)
      | exact DL.Sca.int _
      | exact DL.Sca.bl _
      | ((show List.length _ + List.length _ ≤ 100000); (exact DL.Ln.add (by walk_at "ln") (by walk_at "ln") (by decide)))
      | ((show List.length _ ≤ 100000); (exact DL.Ln.le (by walk_at "ln") (by decide)))
      | ((show List.length _ ≤ 40000); (exact DL.Ln.le (by walk_at "ln") (by decide)))
      | ((show List.length _ < 100000); (exact DL.Ln.lt (by walk_at "ln") (by decide)))
      | ((show _ ≤ 100000); (first | decide | (simp; done) | omega))
      | ((show _ ≤ 40000); (first | decide | (simp; done) | omega | (rw [List.length_map]; omega)))
      | exact DL.atI_zero
      | exact DL.atI_one
      | exact DL.atI_two
      | exact L2.atI_nat (by first | assumption | rfl)
      | exact DL.atI_mapS (by first | assumption | exact L2.atI_nat (by assumption))
      | ((show (0 : Int) < _); (first | decide | omega))
      | ((show DL.CMulB _ _); (exact DL.Sz.mulB (by walk_at "sz") (by walk_at "sz") (by decide)))
      | ((show L2.CDivW _ _); (exact DL.Sz.divW (by first | decide | omega) (by walk_at "sz") (by decide)))
      | ((show L2.CPow _ _); (exact ⟨by decide, by decide, by decide⟩))
      | exact DL.rows_p _
      | exact DL.rows_w _
      | exact DL.rows_i _
      | exact Nat.le_of_ble_eq_true rfl
      | ((show (_ : List Nat) = _); rfl)
      | ((show PySem.SeqAt.shaped _ = true); (exact DL.Nice.shaped (by walk_at "nc") (by decide)))
      | exact DL.kb_ii
      | exact DL.kb_ib
      | exact DL.kb_bb
      | exact DL.kb_ll
      | exact DL.kb_tt
      | ((show DL.scalD _ _ = true); rfl)
      | ((show (_ : Prop) ∧ _); (first | decide | omega))
      | skip)
local macro_rules
  | `(tactic| walk_at "dlL") => `(tactic| first
      | ((with_reducible apply DL.el_lst) <;> walk_at "dl")
      | ((with_reducible apply DL.el_listOf) <;> walk_at "dl")
      | ((with_reducible apply DL.el_sl) <;> walk_at "dl")
      | ((with_reducible apply DL.el_revL) <;> walk_at "dl")
      | ((with_reducible apply DL.el_rev) <;> walk_at "dl")
      | ((with_reducible apply DL.el_listRg) <;> walk_at "dl")
      | ((with_reducible apply DL.el_call) <;> walk_at "dl")
      | ((with_reducible apply DL.el_cat) <;> walk_at "dl")
      | ((with_reducible apply DL.el_rep) <;> walk_at "dl")
      | ((with_reducible apply DL.el_copy) <;> walk_at "dl")
      | ((with_reducible apply DL.el_sorted) <;> walk_at "dl"))
local macro_rules
  | `(tactic| walk_at "dlE") => `(tactic| first
      | exact DL.ee_own rfl
      | exact DL.ee_val rfl
      | ((with_reducible apply DL.EvL.e) <;> walk_at "dlL")
      | ((with_reducible apply DL.Ev.e) <;> walk_at "dl"))
local macro_rules
  | `(tactic| walk_at "dlT") => `(tactic| first
      | exact DL.et_own rfl
      | ((with_reducible apply DL.EvL.t) <;> walk_at "dlL")
      | ((with_reducible apply DL.Ev.t) <;> walk_at "dl"))
local macro_rules
  | `(tactic| walk_at "dlR") => `(tactic| first
      | exact DL.er_own rfl
      | exact DL.er_var rfl
      | ((with_reducible apply DL.ev_ixR) <;> walk_at "dl")
      | ((with_reducible apply (DL.Ev.r (b := false))) <;> walk_at "dl"))
local macro_rules
  | `(tactic| walk_at "dlV") => `(tactic| first
      | ((fail_if_success (with_reducible apply DL.Ev.guard)); ((with_reducible apply DL.ev_ixI) <;> walk_at "dl"))
      | exact DL.ev_int
      | exact DL.ev_bl
      | exact DL.ev_str
      | exact DL.ev_non
      | exact DL.ev_var rfl
      | exact DL.ev_varS rfl rfl
      | exact DL.ev_varW rfl
      | ((with_reducible apply DL.ev_op0) <;> walk_at "dl")
      | ((with_reducible apply DL.ev_opI) <;> walk_at "dl")
      | ((with_reducible apply DL.ev_un) <;> walk_at "dl")
      | ((with_reducible apply DL.ev_eqI) <;> walk_at "dl")
      | ((with_reducible apply DL.ev_neI) <;> walk_at "dl")
      | ((with_reducible apply DL.ev_eq) <;> walk_at "dl")
      | ((with_reducible apply DL.ev_ne) <;> walk_at "dl")
      | ((with_reducible apply DL.ev_ix) <;> walk_at "dl")
      | ((with_reducible apply DL.ev_ixT) <;> walk_at "dl")
      | ((with_reducible apply DL.ev_len) <;> walk_at "dl")
      | ((with_reducible apply DL.ev_lenT) <;> walk_at "dl")
      | ((with_reducible apply DL.ev_max2) <;> walk_at "dl")
      | ((with_reducible apply DL.ev_min2) <;> walk_at "dl")
      | ((with_reducible apply DL.ev_intB) <;> walk_at "dl")
      | ((with_reducible apply DL.ev_sum) <;> walk_at "dl")
      | ((with_reducible apply DL.ev_inI) <;> walk_at "dl")
      | ((with_reducible apply DL.ev_niI) <;> walk_at "dl")
      | ((with_reducible apply DL.ev_inZ) <;> walk_at "dl")
      | ((with_reducible apply DL.ev_niZ) <;> walk_at "dl")
      | ((with_reducible apply DL.ev_andV) <;> walk_at "dl")
      | ((with_reducible apply DL.ev_orV) <;> walk_at "dl")
      | ((with_reducible apply DL.ev_notV) <;> walk_at "dl")
      | ((with_reducible apply DL.ev_tup) <;> walk_at "dl")
      | ((with_reducible apply DL.ev_isi) <;> walk_at "dl")
      | ((with_reducible apply DL.ev_divmod) <;> walk_at "dl")
      | ((with_reducible apply DL.ev_isN) <;> walk_at "dl")
      | ((with_reducible apply DL.ev_notN) <;> walk_at "dl")
      | ((with_reducible apply DL.ev_isB) <;> walk_at "dl")
      | ((with_reducible apply DL.ev_call) <;> walk_at "dl")
      | ((with_reducible apply DL.ev_callX) <;> walk_at "dl")
      | ((with_reducible apply DL.ev_eqD) <;> walk_at "dl")
      | ((with_reducible apply DL.ev_neD) <;> walk_at "dl")
      | ((with_reducible apply DL.ev_inD) <;> walk_at "dl")
      | ((with_reducible apply DL.ev_niD) <;> walk_at "dl")
      | ((with_reducible apply DL.EvL.ev) <;> walk_at "dlL"))
local macro_rules
  | `(tactic| walk_at "dl") => `(tactic| first
      | ((with_reducible (show Int)); skip)
      | ((with_reducible (show List PySem.PyData)); skip)
      | ((with_reducible (show PySem.PyData)); skip)
      | ((with_reducible (show Nat)); skip)
      | ((with_reducible (show Bool)); skip)
      | ((with_reducible (show PySem.Str)); skip)
      | ((with_reducible (show List Int)); skip)
      | ((with_reducible (show Option Int)); skip)
      | ((with_reducible (show List Bool)); skip)
      | ((with_reducible (show List PySem.Str)); skip)
      | ((with_reducible (show Type _)); skip)
      | assumption
      | exact DL.ea_nil
      | exact DL.ef_nil
      | exact DL.eo_none
      | exact DL.eb_yes
      | ((with_reducible apply DL.ea_cons) <;> walk_at "dl")
      | ((with_reducible apply DL.ef_cons) <;> walk_at "dl")
      | ((with_reducible apply DL.eo_some) <;> walk_at "dl")
      | ((with_reducible apply DL.eb_test) <;> walk_at "dl")
      | ((with_reducible apply DL.eb_B) <;> walk_at "dl")
      | ((with_reducible apply DL.eb_not) <;> walk_at "dl")
      | ((with_reducible apply DL.eb_and) <;> walk_at "dl")
      | ((with_reducible apply DL.eb_or) <;> walk_at "dl")
      | ((with_reducible (show DL.EvR _ _ _ _)); walk_at "dlR")
      | ((with_reducible (show DL.EvE _ _ _ _ _)); walk_at "dlE")
      | ((with_reducible (show DL.EvL _ _ _ _ _)); walk_at "dlL")
      | ((with_reducible (show DL.EvT _ _ _ _ _)); walk_at "dlT")
      | ((with_reducible (show DL.Ev _ _ _ _ _)); walk_at "dlV")
      | ((with_reducible intro _); walk_at "dl")
      | walk_at "side")
local macro_rules
  | `(tactic| walk_at "tg") => `(tactic| first
      | exact DL.tg_name
      | exact DL.tg_unl2
      | exact DL.tg_unl3
      | exact DL.tg_tup2
      | exact DL.tg_tup3
      | exact DL.tgs_nil
      | rfl
      | ((with_reducible apply DL.tg_unl) <;> walk_at "tg")
      | ((with_reducible apply DL.tg_tup) <;> walk_at "tg")
      | ((with_reducible apply DL.tgs_cons) <;> walk_at "tg"))
local macro_rules
  | `(tactic| walk_at "le1") => `(tactic| first
      | exact DL.Le.nil
      | ((with_reducible apply DL.Le.drop); walk_at "le1")
      | ((with_reducible apply DL.Le.keep); walk_at "le1")
      | ((with_reducible apply DL.Le.old); walk_at "le1")
      | ((with_reducible apply (DL.Le.sca rfl)); walk_at "le1")
      | ((refine DL.Le.eq ?_ ?_); (first | rfl | (simp; done) | skip); (walk_at "le1")))
local macro_rules
  | `(tactic| walk_at "le") => `(tactic| ((try dsimp only [List.set]); walk_at "le1"))
/-- a state told plainly -/
local macro_rules
  | `(tactic| walk_at "nm") => `(tactic| (try dsimp only [List.set]))

namespace LW
open PySem PySem.Spec PyProof.Rows L2 DL
abbrev topS (i : Nat) : Stmt := PySem.Challenge.pw_hastebook_k61_numbers_and_names.main.body.getD i (.Pass ⟨0, 0, 0, 0⟩)
abbrev s_all_in : Stmt := topS 10
abbrev s_is_name : Stmt := topS 11
abbrev s_read_count : Stmt := topS 12
abbrev s__law_mix : Stmt := topS 14
abbrev s__law_text : Stmt := topS 15
abbrev s__law_word : Stmt := topS 16
abbrev s__law_refused : Stmt := topS 17
abbrev s__law_all_in : Stmt := topS 18
abbrev s_law : Stmt := topS 19
structure Tb (mg : Str → Option Value) : Prop where
  len_ : mg "len" = none
  int_ : mg "int" = none
  str_ : mg "str" = none
  range_ : mg "range" = none
  isinstance_ : mg "isinstance" = none
  ValueError_ : mg "ValueError" = none
  bool_ : mg "bool" = none
  s_FIGURES : ∃ u, mg "FIGURES" = some u ∧ RelV (.str "0123456789") u
  s_LETTERS : ∃ u, mg "LETTERS" = some u ∧ RelV (.str "abcdefghijklmnopqrstuvwxyz") u

structure EX (K : PySem.W.Frag) (mg : Str → Option Value) (C_BookError C_NoOrder C_NoRoom C_NoRow C_NoName C_NoText : Addr) : Prop where
  g_BookError : mg "BookError" = some (.ref C_BookError)
  g_NoOrder : mg "NoOrder" = some (.ref C_NoOrder)
  g_NoRoom : mg "NoRoom" = some (.ref C_NoRoom)
  g_NoRow : mg "NoRow" = some (.ref C_NoRow)
  g_NoName : mg "NoName" = some (.ref C_NoName)
  g_NoText : mg "NoText" = some (.ref C_NoText)
  e_NoText : DL.EC K mg "NoText" C_NoText
  m_NoText : PySem.W.exmOne K (.ref C_NoText) (.ref C_BookError) = some true
  q_NoText_NoOrder : PySem.W.kitOne K (.ref C_NoText) (.ref C_NoOrder) = some false
  q_NoText_NoRoom : PySem.W.kitOne K (.ref C_NoText) (.ref C_NoRoom) = some false
  q_NoText_NoRow : PySem.W.kitOne K (.ref C_NoText) (.ref C_NoRow) = some false
  q_NoText_NoName : PySem.W.kitOne K (.ref C_NoText) (.ref C_NoName) = some false
  q_NoText_NoText : PySem.W.kitOne K (.ref C_NoText) (.ref C_NoText) = some true
  q_NoText_ValueError : PySem.W.kitOne K (.ref C_NoText) (.type "ValueError") = some true
section
variable {P : Program} {w : World} {K : PySem.W.Frag} {mg : Str → Option Value} {base : Heap}
variable {C_BookError C_NoOrder C_NoRoom C_NoRow C_NoName C_NoText : Addr}
def R_all_in (ds : List PyData) (r : PyData) : Prop := ∃ (z s : Str) (m : Int), ds = [.str z, .str s, .int m] ∧ z.length ≤ 100 ∧ r = .bool (!(decide ((z.length : Int) = 0) || decide ((z.length : Int) > m)) && allZ z s)
theorem len_all_in (ds : List PyData) (r : PyData) (h : R_all_in ds r) : ds.length = 3 := by obtain ⟨_, _, _, rfl, _⟩ := h; rfl

abbrev N_all_in : List Str := ["text", "signs", "most", "sign"]
theorem sc_all_in : FnScope N_all_in ["text", "signs", "most"] (defScope s_all_in) := ⟨rfl, rfl, rfl, by decide +kernel, rfl, by decide +kernel, by decide +kernel⟩
theorem ok_all_in (D : Dfn K mg "all_in" s_all_in ["text", "signs", "most"]) (T : Tb mg) (EX_ : EX K mg C_BookError C_NoOrder C_NoRoom C_NoRow C_NoName C_NoText) : Cl P w K mg base CX0 1 "all_in" (spF K R_all_in) := by
  refine cl_F (k := 0) D sc_all_in len_all_in fun f cdv A outer s H E hr => ⟨_, (pss_cons (ps_if (PW.pt (pw_or (pt_cmpR op_eq (pe_callB call_len_str rfl T.len_ (by decide +kernel) (pa_cons (pv 0) pa_nil)) pe_int (nomark _)) (pw_or1 (pt_cmpR op_gt (pe_callB call_len_str rfl T.len_ (by decide +kernel) (pa_cons (pv 0) pa_nil)) (pv 2) (nomark _))))) (pss_one (ps_ret pe_bl)) pss_nil)
      (pss_cons (ps_for PassesOwn.never rfl (pi_str (pv 0)) (pg_name (i := 3) sc_all_in.nd rfl (Or.inl rfl)) (pss_one (ps_if (pt_cmpR op_notIn_sign (pv 3) (pv 1) rfl) (pss_one (ps_ret pe_bl)) pss_nil)))
      (pss_one (ps_ret pe_bl)))), ?_⟩
  rintro Q c _ _ ⟨z, s, m, rfl, hl, rfl⟩ hQ
  show Go c c.H0 _ _ [_, _, _, Sl.no]
  refine q_when (x := decide ((z.length : Int) = 0) || decide ((z.length : Int) > m)) (eb_or (eb_test (Ev.r (b := false) (ev_eqI (Ev.r (b := false) (ev_lenS (er_var rfl) (by omega))) (by walk_at "dl")))) fun _ => eb_test (Ev.r (b := false) (ev_op0 (i := (z.length : Int)) (j := m) (Ev.r (b := false) (ev_lenS (er_var rfl) (by omega))) (by walk_at "dl") (.bl _)))) (fun h => ?_) (fun h => ?_)
  · rw [h] at hQ
    exact go_ret (d := .bool false) (by walk_at "dl") hQ
  rw [h] at hQ
  have hQ : Rt c Q (.bool (allZ z s)) := hQ
  refine q_forS (ev_var rfl) (fun i ρ => (∀ (j n : Nat), j < i → z.cps.toList[j]? = some n → n ∈ s.cps.toList) ∧ Le [.val false (.str z), .val false (.str s), .val false (.int m), .no] ρ) ⟨fun j n h => absurd h (Nat.not_lt_zero _), (by walk_at "le")⟩ (fun B' i n ρ1 hx hI => ?_) (fun ρ1 hI => ?_)
  · obtain ⟨h1, l⟩ := hI
    refine ⟨_, _, tg_weak l tg_name, ?_⟩
    walk_at "nm"
    refine go_when (x := !decide (n ∈ s.cps.toList)) (eb_test (Ev.r (b := false) (ev_niSg (er_var rfl) (er_var rfl)))) (fun h => ?_) (fun h => nx_pst ⟨fun j m hj hm => ?_, (by walk_at "le")⟩)
    · have h : n ∉ s.cps.toList := by simpa using h
      rw [allZ_no hx h] at hQ
      exact go_ret (d := .bool false) (by walk_at "dl") hQ
    · have h : n ∈ s.cps.toList := by simpa using h
      by_cases e : j = i
      · rw [e, hx] at hm
        cases hm
        exact h
      · exact h1 j m (by omega) hm
  · obtain ⟨h1, l⟩ := hI
    rw [allZ_yes fun j n hj => h1 j n (List.getElem?_eq_some_iff.mp hj).1 hj] at hQ
    exact go_weak l (go_ret (d := .bool true) (by walk_at "dl") hQ)
def lettersZ : Str := "abcdefghijklmnopqrstuvwxyz"
def figuresZ : Str := "0123456789"
def R_is_name (ds : List PyData) (r : PyData) : Prop := ∃ z : Str, ds = [.str z] ∧ z.length ≤ 100 ∧ r = .bool (!(decide ((z.length : Int) = 0) || decide ((z.length : Int) > 8)) && allZ z lettersZ)
theorem len_is_name (ds : List PyData) (r : PyData) (h : R_is_name ds r) : ds.length = 1 := by obtain ⟨_, rfl, _⟩ := h; rfl

abbrev N_is_name : List Str := ["text"]
theorem sc_is_name : FnScope N_is_name ["text"] (defScope s_is_name) := ⟨rfl, rfl, rfl, by decide +kernel, rfl, by decide +kernel, by decide +kernel⟩
theorem ok_is_name (D : Dfn K mg "is_name" s_is_name ["text"]) (T : Tb mg) (EX_ : EX K mg C_BookError C_NoOrder C_NoRoom C_NoRow C_NoName C_NoText) (c_all_in : Cl P w K mg base CX0 1 "all_in" (spF K R_all_in)) : Cl P w K mg base CX0 2 "is_name" (spF K R_is_name) := by
  refine cl_F (k := 1) D sc_is_name len_is_name fun f cdv A outer s H E hr => ⟨_, (pss_one (ps_ret (DL.pe_cl c_all_in (hr.mono (by decide)) rfl pass0 (pa_cons (pv 0) (pa_cons (C8.pe_gc rfl T.s_LETTERS) (pa_cons pe_int pa_nil)))))), ?_⟩
  rintro Q c _ _ ⟨z, rfl, hl, rfl⟩ hQ
  show Go c c.H0 _ _ [_]
  have hA : R_all_in [.str z, .str lettersZ, .int 8] (.bool (!(decide ((z.length : Int) = 0) || decide ((z.length : Int) > 8)) && allZ z lettersZ)) := ⟨z, lettersZ, 8, rfl, hl, rfl⟩
  exact go_ret (ev_call (ds := [.str z, .str lettersZ, .int 8]) (ea_cons (by walk_at "dl") (ea_cons (show EvR _ _ _ (.str lettersZ) from Ev.r (b := false) ev_str) (ea_cons (by walk_at "dl") ea_nil))) hA) hQ
def okZ (z : Str) : Bool := !(decide ((z.length : Int) = 0) || decide ((z.length : Int) > 30)) && allZ z figuresZ
def leadZ (z : Str) : Bool := decide (z.cps.toList.head? = some 48) && !decide (z = "0")
theorem fig_digits : figuresZ.cps.toList = [48, 49, 50, 51, 52, 53, 54, 55, 56, 57] := by decide +kernel
theorem fig_mem {n : Nat} (h : n ∈ figuresZ.cps.toList) : 48 ≤ n ∧ n ≤ 57 := by
  rw [fig_digits] at h
  simp only [List.mem_cons, List.not_mem_nil, or_false] at h
  omega
theorem ok_len {z : Str} (h : okZ z = true) : 1 ≤ z.length ∧ z.length ≤ 30 ∧ allZ z figuresZ = true := by
  unfold okZ at h
  rw [Bool.and_eq_true] at h
  refine ⟨?_, ?_, h.2⟩
  · have := h.1
    simp at this
    omega
  · have := h.1
    simp at this
    omega
theorem ok_int {z : Str} (h : okZ z = true) : PySem.intText? z = some (valZ z) := by
  obtain ⟨h1, h2, h3⟩ := ok_len h
  have e := SX.int_S (a := z.cps.toList) (List.all_eq_true.mpr fun n hn => by
    unfold allZ at h3
    have := fig_mem (of_decide_eq_true (List.all_eq_true.mp h3 n hn))
    simp
    omega) (fun q => by rw [← toL_len, q] at h1; simp at h1) (by rw [toL_len]; omega)
  rw [SX.S_tl] at e
  exact e
theorem lead_is {z : Str} {n : Nat} (hx : atI z.cps.toList 0 = some n) : leadZ z = (decide ((⟨#[n]⟩ : Str) = Str.ofString "0") && !decide (z = Str.ofString "0")) := by
  have hd : z.cps.toList.head? = some n := by
    cases e : z.cps.toList with
    | nil => rw [e] at hx; simp [atI, ixN] at hx
    | cons a r =>
      rw [e] at hx
      have : atI (a :: r) 0 = some a := atI_zero
      rw [this] at hx
      exact hx
  unfold leadZ
  rw [hd]
  congr 1
  refine decide_eq_decide.mpr ⟨fun h => ?_, fun h => ?_⟩
  · cases h; decide +kernel
  · have e0 : Str.ofString "0" = ⟨#[48]⟩ := by decide +kernel
    rw [e0] at h
    simpa using h
def O_read_count (A : Addr) (ds : List PyData) (o : PyData ⊕ Addr) : Prop := ∃ z : Str, ds = [.str z] ∧ z.length ≤ 100 ∧ (((okZ z && !leadZ z) = true ∧ o = .inl (.int (valZ z))) ∨ ((okZ z && !leadZ z) = false ∧ o = .inr A))
theorem len_read_count {A : Addr} (ds : List PyData) (o : PyData ⊕ Addr) (h : O_read_count A ds o) : ds.length = 1 := by obtain ⟨_, rfl, _⟩ := h; rfl

abbrev N_read_count : List Str := ["text"]
theorem sc_read_count : FnScope N_read_count ["text"] (defScope s_read_count) := ⟨rfl, rfl, rfl, by decide +kernel, rfl, by decide +kernel, by decide +kernel⟩
theorem ok_read_count (D : Dfn K mg "read_count" s_read_count ["text"]) (T : Tb mg) (EX_ : EX K mg C_BookError C_NoOrder C_NoRoom C_NoRow C_NoName C_NoText) (c_all_in : Cl P w K mg base CX0 1 "all_in" (spF K R_all_in)) : Cl P w K mg base (L2.CX P w) 2 "read_count" (DL.spO K (O_read_count C_NoText)) := by
  refine cl_O (k := 1) D sc_read_count len_read_count fun f cdv A outer s H E hr => ⟨_, (pss_cons (ps_if (PW.pt (pw_or (pt_not (pt_val (DL.pe_cl c_all_in (hr.mono (by decide)) rfl pass0 (pa_cons (pv 0) (pa_cons (C8.pe_gc rfl T.s_FIGURES) (pa_cons pe_int pa_nil)))))) (pw_or1 (PW.pt (pw_and (pt_cmpR op_eq (pe_ix ix_str (pv 0) pe_int (fun _ _ => rfl)) pe_str (nomark _)) (pw_and1 (pt_cmpR op_ne (pv 0) pe_str (nomark _)))))))) (pss_one (DL.ps_raiseK EX_.e_NoText rfl (takes_of rfl rfl rfl rfl) rfl)) pss_nil)
      (pss_one (ps_ret (pe_callTy call_int_str rfl T.int_ (by decide +kernel) (pa_cons (pv 0) pa_nil))))), ?_⟩
  rintro Q c _ o ⟨z, rfl, hl, ho⟩ hQ
  show Go c c.H0 _ _ [_]
  have good : (okZ z && !leadZ z) = true → Rt c Q (.int (valZ z)) := fun h => by
    rcases ho with ⟨_, rfl⟩ | ⟨g, rfl⟩
    · exact hQ
    · rw [h] at g; cases g
  have bad : (okZ z && !leadZ z) = false → ∀ H', Ex c.H0 H' → E (.ref C_NoText) none H' := fun h => by
    rcases ho with ⟨g, rfl⟩ | ⟨_, rfl⟩
    · rw [h] at g; cases g
    · exact hQ
  have hA : R_all_in [.str z, .str figuresZ, .int 30] (.bool (okZ z)) := ⟨z, figuresZ, 30, rfl, hl, rfl⟩
  have hn : EvB c (tNot (tTest (tCall (spF K R_all_in) [] E0 (tCons (tVar 0) (tCons (tC (.str figuresZ)) (tCons (tC (.int 30)) tNil)))))) [.val false (.str z)] (!okZ z) := eb_not (eb_test (Ev.r (b := false) (ev_call (ds := [.str z, .str figuresZ, .int 30]) (ea_cons (er_var rfl) (ea_cons (show EvR _ _ _ (.str figuresZ) from Ev.r (b := false) ev_str) (ea_cons (by walk_at "dl") ea_nil))) hA)))
  by_cases ok : okZ z = true
  · obtain ⟨h1, h2, h3⟩ := ok_len ok
    obtain ⟨n, _, hx⟩ := atI_some (xs := z.cps.toList) (i := 0) (Int.le_refl _) (by rw [toL_len]; omega)
    have le := lead_is hx
    refine q_when (x := !okZ z || leadZ z) (eb_or hn fun _ => EvB.is (eb_and (eb_test (Ev.r (b := false) (ev_eqZ (Ev.r (b := false) (ev_ixS (er_var rfl) (by walk_at "dl") (by omega) hx)) (Ev.r (b := false) ev_str)))) fun _ => eb_test (Ev.r (b := false) (ev_neZ (er_var rfl) (Ev.r (b := false) ev_str)))) le.symm) (fun h => ?_) fun h => ?_
    · exact go_raise (bad (by rw [ok] at h ⊢; simpa using h))
    · exact go_ret (d := .int (valZ z)) (ev_intZ (er_var rfl) (ok_int ok) (by omega)) (good (by rw [ok] at h ⊢; simpa using h))
  · have ok : okZ z = false := by simpa using ok
    refine q_when (x := true) (EvB.is (x := !okZ z || true) (eb_or hn fun h => ?_) (by rw [ok]; rfl)) (fun _ => ?_) fun h => nomatch h
    · rw [ok] at h
      cases h
    · exact go_raise (bad (by rw [ok]; rfl))
def mixZ (n k : Int) : Int := (n * n + k * n + 7 * k * k) * 1103515245 % 2147483629
theorem mix_lo (n k : Int) : 0 ≤ mixZ n k := Int.emod_nonneg _ (by decide)
theorem mix_hi (n k : Int) : mixZ n k < 2147483629 := Int.emod_lt_of_pos _ (by decide)
theorem mix_sz (n k : Int) : Sz 31 (mixZ n k) := Sz.lt (mix_lo n k) (Int.lt_trans (mix_hi n k) (by decide))
def R__law_mix (ds : List PyData) (r : PyData) : Prop := ∃ n k : Int, ds = [.int n, .int k] ∧ Sz 1100000 n ∧ Sz 64 k ∧ r = .int (mixZ n k)
theorem len__law_mix (ds : List PyData) (r : PyData) (h : R__law_mix ds r) : ds.length = 2 := by obtain ⟨n, k, rfl, _⟩ := h; rfl
theorem mix_is {m : Nat} {n k : Int} (hn : Sz m n) (hk : Sz 64 k) (hm : m ≤ 1100000) : R__law_mix [.int n, .int k] (.int (mixZ n k)) := ⟨n, k, rfl, hn.mono hm, hk, rfl⟩
local macro_rules
  | `(tactic| walk_at "side") => `(tactic| ((with_reducible apply LW.mix_is) <;> walk_at "sz"))
local macro_rules
  | `(tactic| walk_at "sz") => `(tactic| exact LW.mix_sz _ _)

abbrev N__law_mix : List Str := ["_law_number", "_law_k"]
theorem sc__law_mix : FnScope N__law_mix ["_law_number", "_law_k"] (defScope s__law_mix) := ⟨rfl, rfl, rfl, by decide +kernel, rfl, by decide +kernel, by decide +kernel⟩
theorem ok__law_mix (D : Dfn K mg "_law_mix" s__law_mix ["_law_number", "_law_k"]) (T : Tb mg) (EX_ : EX K mg C_BookError C_NoOrder C_NoRoom C_NoRow C_NoName C_NoText) : Cl P w K mg base CX0 1 "_law_mix" (spF K R__law_mix) := by
  refine cl_F (k := 0) D sc__law_mix len__law_mix fun f cdv A outer s H E hr => ⟨_, (pss_one (ps_ret (pe_op op_mod (pe_op DL.op_mulB (pe_op op_add (pe_op op_add (pe_op DL.op_mulB (pv 0) (pv 0)) (pe_op DL.op_mulB (pv 1) (pv 0))) (pe_op DL.op_mulB (pe_op DL.op_mulB pe_int (pv 1)) (pv 1))) pe_int) pe_int))), ?_⟩
  rintro Q c _ _ ⟨n, k, rfl, hn, hk, rfl⟩ hQ
  show Go c c.H0 _ _ [_, _]
  exact go_ret (d := .int (mixZ n k)) (by walk_at "dl") hQ
def signsZ : Str := "0123456789-+ _.x"
def P__law_text (ds : List PyData) : Prop := ∃ z : Int, ds = [.int z] ∧ Sz 1048576 z
def R__law_text (ds : List PyData) (r : PyData) : Prop := ∃ z : Str, r = .str z ∧ z.length ≤ 100
theorem len__law_text (ds : List PyData) (h : P__law_text ds) : ds.length = 1 := by obtain ⟨_, rfl, _⟩ := h; rfl

abbrev N__law_text : List Str := ["_law_cell", "_law_text_here", "_law_choice", "_law_at", "_law_sign"]
theorem sc__law_text : FnScope N__law_text ["_law_cell"] (defScope s__law_text) := ⟨rfl, rfl, rfl, by decide +kernel, rfl, by decide +kernel, by decide +kernel⟩
theorem ok__law_text (D : Dfn K mg "_law_text" s__law_text ["_law_cell"]) (T : Tb mg) (EX_ : EX K mg C_BookError C_NoOrder C_NoRoom C_NoRow C_NoName C_NoText) (c__law_mix : Cl P w K mg base CX0 1 "_law_mix" (spF K R__law_mix)) : Cl P w K mg base CX0 2 "_law_text" (spN K P__law_text R__law_text) := by
  refine cl_N (k := 1) D sc__law_text len__law_text fun f cdv A outer s H E hr => ⟨_, (pss_cons (ps_set (i := 1) sc__law_text.nd rfl (Or.inl rfl) (pe_callTy call_str_int rfl T.str_ (by decide +kernel) (pa_cons (pe_op op_mod (pe_op op_fdivW (pv 0) pe_int) (pe_ix (DL.k_ix_list K) (pe_lst (pa_cons (pe_op op_pow pe_int pe_int) (pa_cons (pe_op op_pow pe_int pe_int) (pa_cons (pe_op op_pow pe_int pe_int) pa_nil)))) (pe_op op_mod (pv 0) pe_int) (fun _ _ => rfl))) pa_nil)))
      (pss_cons (ps_set (i := 2) sc__law_text.nd rfl (Or.inl rfl) (pe_op op_mod (DL.pe_cl c__law_mix (hr.mono (by decide)) rfl pass0 (pa_cons (pv 0) (pa_cons pe_int pa_nil))) pe_int))
      (pss_cons (ps_set (i := 3) sc__law_text.nd rfl (Or.inl rfl) (pe_op op_mod (DL.pe_cl c__law_mix (hr.mono (by decide)) rfl pass0 (pa_cons (pv 0) (pa_cons pe_int pa_nil))) (pe_callB call_len_str rfl T.len_ (by decide +kernel) (pa_cons (pv 1) pa_nil))))
      (pss_cons (ps_set (i := 4) sc__law_text.nd rfl (Or.inl rfl) (pe_ix ix_str pe_str (pe_op op_mod (DL.pe_cl c__law_mix (hr.mono (by decide)) rfl pass0 (pa_cons (pv 0) (pa_cons pe_int pa_nil))) pe_int) (fun _ _ => rfl)))
      (pss_cons (ps_if (pt_cmpR op_eq (pv 2) pe_int (nomark _)) (pss_one (ps_ret (pe_op op_add_str (pe_slice sl_str (pv 1) po_none (po_some (pv 3))) (pe_slice sl_str (pv 1) (po_some (pe_op op_add (pv 3) pe_int)) po_none)))) pss_nil)
      (pss_cons (ps_if (pt_cmpR op_eq (pv 2) pe_int (nomark _)) (pss_one (ps_ret (pe_op op_add_str (pe_op op_add_str (pe_slice sl_str (pv 1) po_none (po_some (pv 3))) (pe_ix ix_str (pv 1) (pv 3) (fun _ _ => rfl))) (pe_slice sl_str (pv 1) (po_some (pv 3)) po_none)))) pss_nil)
      (pss_cons (ps_if (pt_cmpR op_eq (pv 2) pe_int (nomark _)) (pss_one (ps_ret (pe_op op_add_str (pe_op op_add_str (pe_slice sl_str (pv 1) po_none (po_some (pv 3))) (pv 4)) (pe_slice sl_str (pv 1) (po_some (pv 3)) po_none)))) pss_nil)
      (pss_cons (ps_if (pt_cmpR op_eq (pv 2) pe_int (nomark _)) (pss_one (ps_ret (pe_op op_add_str (pe_op op_add_str (pe_slice sl_str (pv 1) po_none (po_some (pv 3))) (pv 4)) (pe_slice sl_str (pv 1) (po_some (pe_op op_add (pv 3) pe_int)) po_none)))) pss_nil)
      (pss_cons (ps_if (pt_cmpR op_eq (pv 2) pe_int (nomark _)) (pss_one (ps_ret (pe_op op_add_str (pv 1) (pv 4)))) pss_nil)
      (pss_cons (ps_if (pt_cmpR op_eq (pv 2) pe_int (nomark _)) (pss_one (ps_ret (pe_op DL.op_repS pe_str (pe_op op_add pe_int (pe_op op_mod (pv 0) pe_int))))) pss_nil)
      (pss_one (ps_ret (pv 1))))))))))))), ?_⟩
  rintro Q c _ ⟨z, rfl, hz⟩ hQ
  show Go c c.H0 _ _ [_, Sl.no, Sl.no, Sl.no, Sl.no]
  have done : ∀ t : Str, t.length ≤ 100 → Rt c Q (.str t) := fun t h => hQ _ ⟨t, rfl, h⟩
  have p2 : (0 : Int) < (10 : Int) ^ (2 : Int).toNat := by decide
  have p30 : (0 : Int) < (10 : Int) ^ (30 : Int).toNat := by decide
  have p31 : (0 : Int) < (10 : Int) ^ (31 : Int).toNat := by decide
  obtain ⟨m, hm, m0, m1⟩ : ∃ m : Int, atI [PyData.int ((10 : Int) ^ (2 : Int).toNat), .int ((10 : Int) ^ (30 : Int).toNat), .int ((10 : Int) ^ (31 : Int).toNat)] (z % 3) = some (.int m) ∧ 0 < m ∧ m ≤ (10 : Int) ^ 31 := by
    obtain ⟨m, hmm, hm⟩ := atI_some (xs := [(10 : Int) ^ (2 : Int).toNat, (10 : Int) ^ (30 : Int).toNat, (10 : Int) ^ (31 : Int).toNat]) (i := z % 3) (Int.emod_nonneg _ (by decide)) (Int.emod_lt_of_pos _ (by decide))
    refine ⟨m, atI_mapS (f := PyData.int) hm, ?_⟩
    simp only [List.mem_cons, List.not_mem_nil, or_false] at hmm
    rcases hmm with rfl | rfl | rfl <;> exact ⟨by decide, by decide⟩
  have m2 : ((10 : Int) ^ 31).natAbs < 2 ^ 110 := by decide
  have ms : Sz 110 m := ⟨by omega⟩
  have v0 := Int.emod_nonneg (z / 3) (show m ≠ 0 by omega)
  have v1 := Int.emod_lt_of_pos (z / 3) m0
  have vs : Sz 110 (z / 3 % m) := ms.of_le v0 (by omega)
  obtain ⟨n1, n2⟩ := len_num (n := z / 3 % m) (k := 31) v0 (by decide) (by omega)
  refine q_val (b := false) (d := .str (Str.ofString (toString (z / 3 % m)))) (ev_strI (by walk_at "dl") (Nat.lt_of_le_of_lt vs.log (by decide))) ?_
  walk_at "nm"
  generalize Str.ofString (toString (z / 3 % m)) = t at n1 n2
  refine q_val (b := false) (d := .int (mixZ z 1 % 9)) (by walk_at "dl") ?_
  walk_at "nm"
  generalize mixZ z 1 % 9 = ch
  have tl : (0 : Int) < (t.length : Int) := by omega
  have ts : Sz 64 (t.length : Int) := ⟨by omega⟩
  refine q_val (b := false) (d := .int (mixZ z 2 % (t.length : Int))) (ev_opI (C := fun _ j => 0 < j) (g := fun i j => .int (i % j)) (i := mixZ z 2) (j := (t.length : Int)) (by walk_at "dl") (Ev.r (b := false) (ev_lenS (er_var rfl) (by omega))) tl (.int _)) ?_
  walk_at "nm"
  have a0 := Int.emod_nonneg (mixZ z 2) (show (t.length : Int) ≠ 0 by omega)
  have a1 := Int.emod_lt_of_pos (mixZ z 2) tl
  generalize mixZ z 2 % (t.length : Int) = a at a0 a1
  have e16 : signsZ.cps.toList.length = 16 := by decide +kernel
  have l16 := Int.emod_lt_of_pos (mixZ z 3) (show (0 : Int) < 16 by decide)
  obtain ⟨sg, _, hsg⟩ := atI_some (xs := signsZ.cps.toList) (i := mixZ z 3 % 16) (Int.emod_nonneg _ (by decide)) (by omega)
  refine q_val (b := false) (d := .str ⟨#[sg]⟩) (ev_ixS (z := signsZ) (i := mixZ z 3 % 16) (Ev.r (b := false) ev_str) (by walk_at "dl") (by decide +kernel) hsg) ?_
  walk_at "nm"
  have to : ∀ {b : Bool}, Ev c b (tSl rSlS (tVar 1) tNoPart (tPart (tVar 3))) [.val false (.int z), .val false (.str t), nI ch, nI a, .val false (.str ⟨#[sg]⟩)] (.str (cutS t none (some a))) := ev_slS (er_var rfl) eo_none (eo_some (er_var rfl)) (by omega)
  have fr : ∀ {b : Bool}, Ev c b (tSl rSlS (tVar 1) (tPart (tVar 3)) tNoPart) [.val false (.int z), .val false (.str t), nI ch, nI a, .val false (.str ⟨#[sg]⟩)] (.str (cutS t (some a) none)) := ev_slS (er_var rfl) (eo_some (er_var rfl)) eo_none (by omega)
  have fr1 : ∀ {b : Bool}, Ev c b (tSl rSlS (tVar 1) (tPart (tOp (rI0 fun i j => .int (i + j)) (tVar 3) (tC (.int 1)))) tNoPart) [.val false (.int z), .val false (.str t), nI ch, nI a, .val false (.str ⟨#[sg]⟩)] (.str (cutS t (some (a + 1)) none)) := ev_slS (er_var rfl) (eo_some (by walk_at "dl")) eo_none (by omega)
  have c1 := cutS_length t none (some a)
  have c2 := cutS_length t (some a) none
  have c3 := cutS_length t (some (a + 1)) none
  have one : ∀ n : Nat, (⟨#[n]⟩ : Str).length = 1 := fun _ => rfl
  refine q_when (x := decide (ch = 0)) (by walk_at "dl") (fun _ => ?_) fun _ => ?_
  · exact go_ret (ev_addS (Ev.r (b := false) to) (Ev.r (b := false) fr1) (by omega)) (done _ (by rw [addZ_len]; omega))
  refine q_when (x := decide (ch = 1)) (by walk_at "dl") (fun _ => ?_) fun _ => ?_
  · obtain ⟨n, _, hn⟩ := atI_some (xs := t.cps.toList) (i := a) a0 (by rw [toL_len]; exact a1)
    exact go_ret (ev_addS (Ev.r (b := false) (ev_addS (Ev.r (b := false) to) (Ev.r (b := false) (ev_ixS (er_var rfl) (er_var rfl) (by omega) hn)) (by rw [one]; omega))) (Ev.r (b := false) fr) (by rw [addZ_len, one]; omega)) (done _ (by rw [addZ_len, addZ_len, one]; omega))
  refine q_when (x := decide (ch = 2)) (by walk_at "dl") (fun _ => ?_) fun _ => ?_
  · exact go_ret (ev_addS (Ev.r (b := false) (ev_addS (Ev.r (b := false) to) (er_var rfl) (by rw [one]; omega))) (Ev.r (b := false) fr) (by rw [addZ_len, one]; omega)) (done _ (by rw [addZ_len, addZ_len, one]; omega))
  refine q_when (x := decide (ch = 3)) (by walk_at "dl") (fun _ => ?_) fun _ => ?_
  · exact go_ret (ev_addS (Ev.r (b := false) (ev_addS (Ev.r (b := false) to) (er_var rfl) (by rw [one]; omega))) (Ev.r (b := false) fr1) (by rw [addZ_len, one]; omega)) (done _ (by rw [addZ_len, addZ_len, one]; omega))
  refine q_when (x := decide (ch = 4)) (by walk_at "dl") (fun _ => ?_) fun _ => ?_
  · exact go_ret (ev_addS (er_var rfl) (er_var rfl) (by rw [one]; omega)) (done _ (by rw [addZ_len, one]; omega))
  refine q_when (x := decide (ch = 5)) (by walk_at "dl") (fun _ => ?_) fun _ => ?_
  · have r0 := Int.emod_nonneg z (show (3 : Int) ≠ 0 by decide)
    have r1 := Int.emod_lt_of_pos z (show (0 : Int) < 3 by decide)
    refine go_retEN (en_repS (z := "0") (n := 1 + z % 3) (Ev.r (b := false) ev_str) (by walk_at "dl") (by omega) (by omega) (by decide +kernel)) fun d hd => ?_
    obtain ⟨y, rfl, hy⟩ := hd
    refine done y ?_
    have e : (Str.ofString "0").length = 1 := by decide +kernel
    rw [hy, e]
    omega
  exact go_ret (d := .str t) (by walk_at "dl") (done t (by omega))
def greatZ : Str := "AZ09 -_"
def P__law_word (ds : List PyData) : Prop := ∃ z : Int, ds = [.int z] ∧ Sz 1048576 z
def R__law_word (ds : List PyData) (r : PyData) : Prop := ∃ z : Str, r = .str z ∧ z.length ≤ 100
theorem len__law_word (ds : List PyData) (h : P__law_word ds) : ds.length = 1 := by obtain ⟨_, rfl, _⟩ := h; rfl

abbrev N__law_word : List Str := ["_law_cell", "_law_letters", "_law_word_here", "_law_k", "_law_at"]
theorem sc__law_word : FnScope N__law_word ["_law_cell"] (defScope s__law_word) := ⟨rfl, rfl, rfl, by decide +kernel, rfl, by decide +kernel, by decide +kernel⟩
theorem ok__law_word (D : Dfn K mg "_law_word" s__law_word ["_law_cell"]) (T : Tb mg) (EX_ : EX K mg C_BookError C_NoOrder C_NoRoom C_NoRow C_NoName C_NoText) (c__law_mix : Cl P w K mg base CX0 1 "_law_mix" (spF K R__law_mix)) : Cl P w K mg base CX0 2 "_law_word" (spN K P__law_word R__law_word) := by
  refine cl_N (k := 1) D sc__law_word len__law_word fun f cdv A outer s H E hr => ⟨_, (pss_cons (ps_set (i := 1) sc__law_word.nd rfl (Or.inr rfl) pe_str)
      (pss_cons (ps_set (i := 2) sc__law_word.nd rfl (Or.inl rfl) (DL.k_join K pe_str (pe_lc (own := [("_law_k", 3)]) rfl sc__law_word.nd (pi_range1 rfl T.range_ (pa_cons (pe_op op_mod (DL.pe_cl c__law_mix (hr.mono (by decide)) rfl pass0 (pa_cons (pv 0) (pa_cons pe_int pa_nil))) pe_int) pa_nil)) (blkOk_by (N := N__law_word) (sc := defScope s__law_word) (by decide +kernel)) (fun _ _ _ _ _ => (pg_name (i := 3) sc__law_word.nd rfl (by first | exact Or.inl rfl | exact Or.inr rfl))) (fun _ _ _ _ _ => pts_nil) (fun _ _ _ _ _ => (pe_ix ix_str (pv 1) (pe_op op_mod (DL.pe_cl c__law_mix (hr.mono (by decide)) rfl pass0 (pa_cons (pe_op op_add (pv 0) (pe_op DL.op_mulB (pv 3) (pv 3))) (pa_cons pe_int pa_nil))) pe_int) (fun _ _ => rfl))))))
      (Evl.pss_cut (ps_if (pt_cmpR op_eq (pe_op op_mod (DL.pe_cl c__law_mix (hr.mono (by decide)) rfl pass0 (pa_cons (pv 0) (pa_cons pe_int pa_nil))) pe_int) pe_int (nomark _)) (pss_cons (ps_set (i := 4) sc__law_word.nd rfl (Or.inl rfl) (pe_op op_mod (DL.pe_cl c__law_mix (hr.mono (by decide)) rfl pass0 (pa_cons (pv 0) (pa_cons pe_int pa_nil))) (pe_op op_add (pe_callB call_len_str rfl T.len_ (by decide +kernel) (pa_cons (pv 2) pa_nil)) pe_int)))
      (pss_one (ps_set (i := 2) sc__law_word.nd rfl (Or.inl rfl) (pe_op op_add_str (pe_op op_add_str (pe_slice sl_str (pv 2) po_none (po_some (pv 4))) (pe_ix ix_str pe_str (pe_op op_mod (DL.pe_cl c__law_mix (hr.mono (by decide)) rfl pass0 (pa_cons (pv 0) (pa_cons pe_int pa_nil))) pe_int) (fun _ _ => rfl))) (pe_slice sl_str (pv 2) (po_some (pe_op op_add (pv 4) pe_int)) po_none))))) pss_nil)
      (pss_one (ps_ret (pv 2)))))), ?_⟩
  rintro Q c _ ⟨z, rfl, hz⟩ hQ
  show Go c c.H0 _ _ [_, Sl.no, Sl.no, Sl.no, Sl.no]
  have done : ∀ t : Str, t.length ≤ 100 → Rt c Q (.str t) := fun t h => hQ _ ⟨t, rfl, h⟩
  refine q_val (b := false) (d := .str lettersZ) ev_str ?_
  walk_at "nm"
  have n0 := Int.emod_nonneg (mixZ z 5) (show (10 : Int) ≠ 0 by decide)
  have n1 := Int.emod_lt_of_pos (mixZ z 5) (show (0 : Int) < 10 by decide)
  obtain ⟨n, hn⟩ := nat_of n0
  refine q_valN (b := false) (en_joinZ (sep := Str.ofString "") (m := 9) (PN := fun ys => ys.length ≤ 9 ∧ ∀ y ∈ ys, y.length ≤ 1) (by decide +kernel) (Ev.r (b := false) ev_str) (EvN.mono (EvLN.ev (el_lcRN (b := false) (js := [3]) (n := n) (fun _ d => ∃ y : Str, d = .str y ∧ y.length ≤ 1) (by rw [← hn]; exact (by walk_at "dl")) (by omega) (by simp) fun k hk => ⟨_, tg_name, ?_⟩)) fun d hd => ?_) (fun ys h => h) (by decide)) fun d hd => ?_
  · have hk9 : k ≤ 9 := by omega
    have kk : k * k ≤ 9 * 9 := Nat.mul_le_mul hk9 hk9
    have sk : Sz 64 (k : Int) := ⟨by omega⟩
    have skk : Sz 64 ((k : Int) * (k : Int)) := ⟨by rw [← Int.natCast_mul]; omega⟩
    have sz : Sz 1099999 (z + (k : Int) * (k : Int)) := (hz.add2 skk).mono (by decide)
    have e26 : lettersZ.cps.toList.length = 26 := by decide +kernel
    have l26 := Int.emod_lt_of_pos (mixZ (z + (k : Int) * (k : Int)) 4) (show (0 : Int) < 26 by decide)
    obtain ⟨sg, _, hsg⟩ := atI_some (xs := lettersZ.cps.toList) (i := mixZ (z + (k : Int) * (k : Int)) 4 % 26) (Int.emod_nonneg _ (by decide)) (by omega)
    exact Ev.n (d := .str ⟨#[sg]⟩) (ev_ixS (z := lettersZ) (i := mixZ (z + (k : Int) * (k : Int)) 4 % 26) (er_var rfl) (by walk_at "dl") (by decide +kernel) hsg) ⟨_, rfl, Nat.le_refl _⟩
  · obtain ⟨ds, rfl, hds⟩ := hd
    obtain ⟨ys, rfl, hl, hy⟩ := hds.map
    rw [List.length_range] at hl
    refine ⟨ys, rfl, by omega, fun y hm => ?_⟩
    obtain ⟨k, hk⟩ := List.getElem?_of_mem hm
    have hk1 := (List.getElem?_eq_some_iff.mp hk).1
    exact hy k k y (List.getElem?_range (by omega)) hk
  obtain ⟨ys, ⟨y1, y2⟩, rfl⟩ := hd
  have tl := join_lenZ ys y2
  generalize Txt.join ⟨#[]⟩ ys = t at tl
  walk_at "nm"
  have tl9 : t.length ≤ 9 := by omega
  refine q_cut (fun ρ => ∃ t : Str, t.length ≤ 100 ∧ Le [.no, .no, .val false (.str t), .no, .no] ρ) (go_when (x := decide (mixZ z 6 % 3 = 0)) (by walk_at "dl") (fun _ => ?_) fun _ => nx_pst ⟨t, by omega, (by walk_at "le")⟩) fun ρ1 hI => ?_
  · have ts : (0 : Int) < (t.length : Int) + 1 := by omega
    refine q_val (b := false) (d := .int (mixZ z 7 % ((t.length : Int) + 1))) (ev_opI (C := fun _ j => 0 < j) (g := fun i j => .int (i % j)) (i := mixZ z 7) (j := (t.length : Int) + 1) (by walk_at "dl") (Ev.r (b := false) (ev_op0 (i := (t.length : Int)) (j := 1) (Ev.r (b := false) (ev_lenS (er_var rfl) (by omega))) (by walk_at "dl") (.int _))) ts (.int _)) ?_
    walk_at "nm"
    generalize mixZ z 7 % ((t.length : Int) + 1) = a
    have e7 : greatZ.cps.toList.length = 7 := by decide +kernel
    have l7 := Int.emod_lt_of_pos (mixZ z 8) (show (0 : Int) < 7 by decide)
    obtain ⟨sg, _, hsg⟩ := atI_some (xs := greatZ.cps.toList) (i := mixZ z 8 % 7) (Int.emod_nonneg _ (by decide)) (by omega)
    have one : ∀ n : Nat, (⟨#[n]⟩ : Str).length = 1 := fun _ => rfl
    have c1 := cutS_length t none (some a)
    have c3 := cutS_length t (some (a + 1)) none
    refine go_val (b := false) (d := .str (cutS t none (some a) ++ ⟨#[sg]⟩ ++ cutS t (some (a + 1)) none)) (ev_addS (Ev.r (b := false) (ev_addS (Ev.r (b := false) (ev_slS (er_var rfl) eo_none (eo_some (er_var rfl)) (by omega))) (Ev.r (b := false) (ev_ixS (z := greatZ) (i := mixZ z 8 % 7) (Ev.r (b := false) ev_str) (by walk_at "dl") (by decide +kernel) hsg)) (by rw [one]; omega))) (Ev.r (b := false) (ev_slS (er_var rfl) (eo_some (by walk_at "dl")) eo_none (by omega))) (by rw [addZ_len, one]; omega)) (nx_pst ⟨cutS t none (some a) ++ ⟨#[sg]⟩ ++ cutS t (some (a + 1)) none, by rw [addZ_len, addZ_len, one]; omega, (by walk_at "le")⟩)
  · obtain ⟨t, ht, l⟩ := hI
    exact go_weak l (go_ret (d := .str t) (by walk_at "dl") (done t ht))
def R__law_refused (ds : List PyData) (r : PyData) : Prop := ∃ z : Str, ds = [.str z] ∧ z.length ≤ 100 ∧ (okZ z && !leadZ z) = false ∧ r = .bool true
theorem len__law_refused (ds : List PyData) (r : PyData) (h : R__law_refused ds r) : ds.length = 1 := by obtain ⟨_, rfl, _⟩ := h; rfl

abbrev N__law_refused : List Str := ["_law_text_here", "_law_caught", "e"]
theorem sc__law_refused : FnScope N__law_refused ["_law_text_here"] (defScope s__law_refused) := ⟨rfl, rfl, rfl, by decide +kernel, rfl, by decide +kernel, by decide +kernel⟩
theorem ok__law_refused (D : Dfn K mg "_law_refused" s__law_refused ["_law_text_here"]) (T : Tb mg) (EX_ : EX K mg C_BookError C_NoOrder C_NoRoom C_NoRow C_NoName C_NoText) (c_read_count : Cl P w K mg base (L2.CX P w) 2 "read_count" (DL.spO K (O_read_count C_NoText))) : Cl P w K mg base CX0 3 "_law_refused" (spF K R__law_refused) := by
  refine cl_F (k := 2) D sc__law_refused len__law_refused fun f cdv A outer s H E hr => ⟨_, (pss_cons (ps_set (i := 1) sc__law_refused.nd rfl (Or.inl rfl) pe_non)
      (pss_cons (DL.ps_tryK (i := 2) (j := 1) K rfl rfl rfl rfl sc__law_refused.nd rfl rfl ⟨rfl, by decide, .inl EX_.g_BookError⟩ (fun W pn xe tk _ => (pss_one (ps_expr (DL.pe_clS c_read_count (hr.mono (by decide)) rfl (fun σ => passAt tk σ) (pa_cons (pv 0) pa_nil))))) (fun a oe cls d pn _ _ => (pss_one (ps_set (i := 1) sc__law_refused.nd rfl (Or.inl rfl) (pv 2)))))
      (pss_cons (ps_if (PW.pt (pw_or (pt_val (pe_callB (DL.k_isCT K) rfl T.isinstance_ (by decide +kernel) (pa_cons (pv 1) (pa_cons (pe_tup (pa_cons (pe_glob (v := .ref C_NoOrder) rfl EX_.g_NoOrder rfl) (pa_cons (pe_glob (v := .ref C_NoRoom) rfl EX_.g_NoRoom rfl) pa_nil))) pa_nil)))) (pw_or1 (pt_val (pe_callB (DL.k_isCT K) rfl T.isinstance_ (by decide +kernel) (pa_cons (pv 1) (pa_cons (pe_tup (pa_cons (pe_glob (v := .ref C_NoRow) rfl EX_.g_NoRow rfl) (pa_cons (pe_glob (v := .ref C_NoName) rfl EX_.g_NoName rfl) pa_nil))) pa_nil))))))) (pss_one (ps_ret pe_bl)) pss_nil)
      (pss_one (ps_ret (pe_and (pe_callB (DL.k_isC K) rfl T.isinstance_ (by decide +kernel) (pa_cons (pv 1) (pa_cons (pe_glob (v := .ref C_NoText) rfl EX_.g_NoText rfl) pa_nil))) (pe_one (pe_callB (DL.k_isC K) rfl T.isinstance_ (by decide +kernel) (pa_cons (pv 1) (pa_cons (pe_bltn (v := .ty "ValueError") rfl T.ValueError_ (by decide +kernel) rfl) pa_nil)))))))))), ?_⟩
  rintro Q c _ _ ⟨z, rfl, hl, nd, rfl⟩ hQ
  show Go c c.H0 _ _ [_, Sl.no, Sl.no]
  refine q_val (b := false) ev_non ?_
  walk_at "nm"
  refine q_try (go_dropOK (C := C_NoText) (j := 1) (by walk_at "dl") ⟨z, rfl, hl, .inr ⟨nd, rfl⟩⟩ EX_.m_NoText (Nat.le_of_ble_eq_true rfl) ?_)
  walk_at "nm"
  have k1 : PySem.W.kitAny K (.ref C_NoText) [.ref C_NoOrder, .ref C_NoRoom] = some false := kitAny_cons EX_.q_NoText_NoOrder (fun _ => kitAny_cons EX_.q_NoText_NoRoom (fun _ => kitAny_nil) fun h => nomatch h) fun h => nomatch h
  have k2 : PySem.W.kitAny K (.ref C_NoText) [.ref C_NoRow, .ref C_NoName] = some false := kitAny_cons EX_.q_NoText_NoRow (fun _ => kitAny_cons EX_.q_NoText_NoName (fun _ => kitAny_nil) fun h => nomatch h) fun h => nomatch h
  have e1 := ev_isCT (K := K) (c := c) (b := false) (i := 1) (ρ := [.val false (.str z), .exc (.ref C_NoText), .no]) rfl EX_.e_NoText.c (.cons (.own C_NoOrder) (.cons (.own C_NoRoom) .nil)) (Nat.le_of_ble_eq_true rfl) k1
  have e2 := ev_isCT (K := K) (c := c) (b := false) (i := 1) (ρ := [.val false (.str z), .exc (.ref C_NoText), .no]) rfl EX_.e_NoText.c (.cons (.own C_NoRow) (.cons (.own C_NoName) .nil)) (Nat.le_of_ble_eq_true rfl) k2
  refine q_when (x := false || false) (eb_or (eb_test e1.r) fun _ => eb_test e2.r) (fun h => nomatch h) fun _ => ?_
  exact go_ret (d := .bool (true && true)) (ev_andV (Ev.r (b := false) (ev_isC rfl EX_.e_NoText.c (.own _) EX_.q_NoText_NoText)) fun _ => Ev.r (b := false) (ev_isC rfl EX_.e_NoText.c (.ty _) EX_.q_NoText_ValueError)) hQ
def R__law_all_in (ds : List PyData) (r : PyData) : Prop := ∃ z s : Str, ds = [.str z, .str s] ∧ r = .bool (allZ z s)
theorem len__law_all_in (ds : List PyData) (r : PyData) (h : R__law_all_in ds r) : ds.length = 2 := by obtain ⟨_, _, rfl, _⟩ := h; rfl

abbrev N__law_all_in : List Str := ["_law_text_here", "_law_signs", "_law_sign"]
theorem sc__law_all_in : FnScope N__law_all_in ["_law_text_here", "_law_signs"] (defScope s__law_all_in) := ⟨rfl, rfl, rfl, by decide +kernel, rfl, by decide +kernel, by decide +kernel⟩
theorem ok__law_all_in (D : Dfn K mg "_law_all_in" s__law_all_in ["_law_text_here", "_law_signs"]) (T : Tb mg) (EX_ : EX K mg C_BookError C_NoOrder C_NoRoom C_NoRow C_NoName C_NoText) : Cl P w K mg base CX0 1 "_law_all_in" (spF K R__law_all_in) := by
  refine cl_F (k := 0) D sc__law_all_in len__law_all_in fun f cdv A outer s H E hr => ⟨_, (pss_cons (ps_for PassesOwn.never rfl (pi_str (pv 0)) (pg_name (i := 2) sc__law_all_in.nd rfl (Or.inl rfl)) (pss_one (ps_if (pt_cmpR op_notIn_sign (pv 2) (pv 1) rfl) (pss_one (ps_ret pe_bl)) pss_nil)))
      (pss_one (ps_ret pe_bl))), ?_⟩
  rintro Q c _ _ ⟨z, s, rfl, rfl⟩ hQ
  show Go c c.H0 _ _ [_, _, Sl.no]
  refine q_forS (ev_var rfl) (fun i ρ => (∀ (j n : Nat), j < i → z.cps.toList[j]? = some n → n ∈ s.cps.toList) ∧ Le [.val false (.str z), .val false (.str s), .no] ρ) ⟨fun j n h => absurd h (Nat.not_lt_zero _), (by walk_at "le")⟩ (fun B' i n ρ1 hx hI => ?_) (fun ρ1 hI => ?_)
  · obtain ⟨h1, l⟩ := hI
    refine ⟨_, _, tg_weak l tg_name, ?_⟩
    walk_at "nm"
    refine go_when (x := !decide (n ∈ s.cps.toList)) (eb_test (Ev.r (b := false) (ev_niSg (er_var rfl) (er_var rfl)))) (fun h => ?_) (fun h => nx_pst ⟨fun j m hj hm => ?_, (by walk_at "le")⟩)
    · have h : n ∉ s.cps.toList := by simpa using h
      rw [allZ_no hx h] at hQ
      exact go_ret (d := .bool false) (by walk_at "dl") hQ
    · have h : n ∈ s.cps.toList := by simpa using h
      by_cases e : j = i
      · rw [e, hx] at hm
        cases hm
        exact h
      · exact h1 j m (by omega) hm
  · obtain ⟨h1, l⟩ := hI
    rw [allZ_yes fun j n hj => h1 j n (List.getElem?_eq_some_iff.mp hj).1 hj] at hQ
    exact go_weak l (go_ret (d := .bool true) (by walk_at "dl") hQ)
def R_law (ds : List PyData) (r : PyData) : Prop := ∃ ns : List Int, ds = [iL ns] ∧ ns.length ≤ 63 ∧ (∀ z ∈ ns, Sz 1048576 z) ∧ r = .bool true
theorem len_law (ds : List PyData) (r : PyData) (h : R_law ds r) : ds.length = 1 := by obtain ⟨n, rfl, _⟩ := h; rfl
theorem law_true (ns : List Int) (h1 : ns.length ≤ 63) (h2 : ∀ z ∈ ns, Builtin.Int.intBits z ≤ 1048576) : R_law [iL ns] (.bool true) := ⟨ns, rfl, h1, fun z hz => Sz.bits (h2 z hz), rfl⟩
theorem right_is (t : Str) : (allZ t figuresZ && (decide ((t.length : Int) > 0) && decide ((t.length : Int) < 31))) = okZ t := by
  unfold okZ
  rw [Bool.and_comm]
  congr 1
  rw [Bool.eq_iff_iff]
  simp
  omega
theorem name_is (t : Str) : (decide ((t.length : Int) > 0) && (decide ((t.length : Int) < 9) && allZ t lettersZ)) = (!(decide ((t.length : Int) = 0) || decide ((t.length : Int) > 8)) && allZ t lettersZ) := by
  rw [← Bool.and_assoc]
  congr 1
  rw [Bool.eq_iff_iff]
  simp
  omega
theorem idx_fig {n : Nat} (h : n ∈ figuresZ.cps.toList) : ∃ rest, Builtin.Str.occurrences figuresZ ⟨#[n]⟩ 0 figuresZ.length 1 = (n - 48) :: rest := by
  rw [fig_digits] at h
  simp only [List.mem_cons, List.not_mem_nil, or_false] at h
  rcases h with rfl | rfl | rfl | rfl | rfl | rfl | rfl | rfl | rfl | rfl <;> exact ⟨[], by decide +kernel⟩
theorem val_step {t : Str} {i n : Nat} (h : t.cps.toList[i]? = some n) : NumText.digitsVal (t.cps.toList.take (i + 1)) = NumText.digitsVal (t.cps.toList.take i) * 10 + (n - 48) := by
  unfold NumText.digitsVal
  rw [List.take_add_one, h, List.foldl_append]
  rfl

abbrev N_law : List Str := ["_law_script", "_law_cell", "_law_text_here", "_law_right", "_law_found", "_law_due", "_law_sign", "_law_word_here"]
theorem sc_law : FnScope N_law ["_law_script"] (defScope s_law) := ⟨rfl, rfl, rfl, by decide +kernel, rfl, by decide +kernel, by decide +kernel⟩
theorem ok_law {ff : Addr} {ffd : FuncData} (D : Fun K "law" "law" s_law ff ffd) (T : Tb mg) (EX_ : EX K mg C_BookError C_NoOrder C_NoRoom C_NoRow C_NoName C_NoText) (c__law_text : Cl P w K mg base CX0 2 "_law_text" (spN K P__law_text R__law_text)) (c__law_word : Cl P w K mg base CX0 2 "_law_word" (spN K P__law_word R__law_word)) (c_is_name : Cl P w K mg base CX0 2 "is_name" (spF K R_is_name)) (c__law_all_in : Cl P w K mg base CX0 1 "_law_all_in" (spF K R__law_all_in)) (c_read_count : Cl P w K mg base (L2.CX P w) 2 "read_count" (DL.spO K (O_read_count C_NoText))) (c__law_refused : Cl P w K mg base CX0 3 "_law_refused" (spF K R__law_refused)) : FnOk P w K mg base CX0 4 ff ffd ["_law_script"] (spF K R_law) := by
  refine fn_F (k := 3) D sc_law len_law fun f cdv A outer s H E hr => ⟨_, (pss_cons (ps_for PassesOwn.never rfl (DL.k_pi_list K (pe_op DL.op_catR (pe_lst (pa_cons pe_int pa_nil)) (pe_slice (DL.k_sl_list K) (pv 0) po_none (po_some pe_int)))) (pg_name (i := 1) sc_law.nd rfl (Or.inl rfl)) (pss_cons (ps_set (i := 2) sc_law.nd rfl (Or.inl rfl) (DL.pe_cl c__law_text (hr.mono (by decide)) rfl pass0 (pa_cons (pv 1) pa_nil)))
      (pss_cons (ps_set (i := 3) sc_law.nd rfl (Or.inl rfl) (pe_and (DL.pe_cl c__law_all_in (hr.mono (by decide)) rfl pass0 (pa_cons (pv 2) (pa_cons pe_str pa_nil))) (pe_and (pe_cmpR op_gt (pe_callB call_len_str rfl T.len_ (by decide +kernel) (pa_cons (pv 2) pa_nil)) pe_int (nomark _)) (pe_one (pe_cmpR op_lt (pe_callB call_len_str rfl T.len_ (by decide +kernel) (pa_cons (pv 2) pa_nil)) pe_int (nomark _))))))
      (Evl.pss_cut (ps_if (PW.pt (pw_and (pt_val (pv 3)) (pw_and1 (PW.pt (pw_or (pt_cmpR op_eq (pv 2) pe_str (nomark _)) (pw_or1 (pt_cmpR op_ne (pe_ix ix_str (pv 2) pe_int (fun _ _ => rfl)) pe_str (nomark _)))))))) (pss_cons (ps_set (i := 4) sc_law.nd rfl (Or.inl rfl) (DL.pe_cl c_read_count (hr.mono (by decide)) rfl passL (pa_cons (pv 2) pa_nil)))
      (pss_cons (ps_set (i := 5) sc_law.nd rfl (Or.inl rfl) pe_int)
      (pss_cons (ps_for PassesOwn.never rfl (pi_str (pv 2)) (pg_name (i := 6) sc_law.nd rfl (Or.inl rfl)) (pss_one (ps_set (i := 5) sc_law.nd rfl (Or.inl rfl) (pe_op op_add (pe_op DL.op_mulB pe_int (pv 5)) (pe_m1 PySem.F.slot_str_index PySem.F.type_str_index mt_sindex pe_str (pv 6))))))
      (pss_one (ps_if (PW.pt (pw_or (pt_not (pt_val (pe_callB (DL.k_isi K) rfl T.isinstance_ (by decide +kernel) (pa_cons (pv 4) (pa_cons (pe_bltn (v := .ty "int") rfl T.int_ (by decide +kernel) rfl) pa_nil))))) (pw_or (pt_val (pe_callB (DL.k_isi K) rfl T.isinstance_ (by decide +kernel) (pa_cons (pv 4) (pa_cons (pe_bltn (v := .ty "bool") rfl T.bool_ (by decide +kernel) rfl) pa_nil)))) (pw_or1 (pt_cmpR op_ne (pv 4) (pv 5) (nomark _)))))) (pss_one (ps_ret pe_bl)) pss_nil))))) (pss_one (ps_if (pt_not (pt_val (DL.pe_cl c__law_refused (hr.mono (by decide)) rfl pass0 (pa_cons (pv 2) pa_nil)))) (pss_one (ps_ret pe_bl)) pss_nil)))
      (pss_cons (ps_set (i := 7) sc_law.nd rfl (Or.inl rfl) (DL.pe_cl c__law_word (hr.mono (by decide)) rfl pass0 (pa_cons (pv 1) pa_nil)))
      (pss_cons (ps_set (i := 4) sc_law.nd rfl (Or.inl rfl) (DL.pe_cl c_is_name (hr.mono (by decide)) rfl pass0 (pa_cons (pv 7) pa_nil)))
      (pss_cons (ps_set (i := 5) sc_law.nd rfl (Or.inl rfl) (pe_and (pe_cmpR op_gt (pe_callB call_len_str rfl T.len_ (by decide +kernel) (pa_cons (pv 7) pa_nil)) pe_int (nomark _)) (pe_and (pe_cmpR op_lt (pe_callB call_len_str rfl T.len_ (by decide +kernel) (pa_cons (pv 7) pa_nil)) pe_int (nomark _)) (pe_one (DL.pe_cl c__law_all_in (hr.mono (by decide)) rfl pass0 (pa_cons (pv 7) (pa_cons pe_str pa_nil)))))))
      (pss_one (ps_if (PW.pt (pw_or (pt_not (pt_val (pe_callB (DL.k_isi K) rfl T.isinstance_ (by decide +kernel) (pa_cons (pv 4) (pa_cons (pe_bltn (v := .ty "bool") rfl T.bool_ (by decide +kernel) rfl) pa_nil))))) (pw_or1 (pt_cmpR op_ne (pv 4) (pv 5) (nomark _))))) (pss_one (ps_ret pe_bl)) pss_nil)))))))))
      (pss_one (ps_ret pe_bl))), ?_⟩
  rintro Q c _ _ ⟨ns, rfl, hl, hz, rfl⟩ hQ
  show Go c c.H0 _ _ [_, Sl.no, Sl.no, Sl.no, Sl.no, Sl.no, Sl.no, Sl.no]
  have ecut : cutL (ns.map PyData.int) none (some 63) = (ns.take 63).map PyData.int := by
    have := cutL_to (ns.map PyData.int) 63
    rw [List.map_take]
    exact this
  refine q_for (b := false) (xs := [4] ++ ns.take 63) (enc := PyData.int) (Ev.is (d := .list ([.int 4] ++ cutL (ns.map PyData.int) none (some 63))) (EvL.ev (el_cat (EvL.t (by walk_at "dl")) (EvL.t (el_sl (ee_val rfl) eo_none (eo_some (by walk_at "dl")))) (by rw [ecut, List.length_map, List.length_take, List.length_singleton]; omega))) (by rw [ecut, List.map_append]; rfl)) (fun _ ρ => Le [.val false (iL ns), .no, .no, .no, .no, .no, .no, .no] ρ) (by walk_at "le") (fun B' i x ρ1 hx l => ?_) (fun ρ1 l => go_weak l (go_ret (d := .bool true) (by walk_at "dl") hQ))
  have sx : Sz 1048576 x := by
    rcases List.mem_append.mp (List.mem_of_getElem? hx) with h | h
    · rw [List.mem_singleton] at h
      rw [h]
      exact ⟨by decide +kernel⟩
    · exact hz x (List.mem_of_mem_take h)
  refine ⟨_, _, tg_weak l tg_name, ?_⟩
  walk_at "nm"
  refine q_valN (b := false) (ev_callN (ds := [.int x]) (by walk_at "dl") ⟨x, rfl, sx⟩) fun d hd => ?_
  obtain ⟨t, rfl, ht⟩ := hd
  walk_at "nm"
  have hA : R__law_all_in [.str t, .str figuresZ] (.bool (allZ t figuresZ)) := ⟨t, figuresZ, rfl, rfl⟩
  refine q_val (b := false) (d := .bool (okZ t)) (Ev.is (d := .bool (allZ t figuresZ && (decide ((t.length : Int) > 0) && decide ((t.length : Int) < 31)))) (ev_andV (Ev.r (b := false) (ev_call (ds := [.str t, .str figuresZ]) (ea_cons (er_var rfl) (ea_cons (show EvR _ _ _ (.str figuresZ) from Ev.r (b := false) ev_str) ea_nil)) hA)) fun _ => Ev.r (b := false) (ev_andV (Ev.r (b := false) (ev_op0 (i := (t.length : Int)) (j := 0) (Ev.r (b := false) (ev_lenS (er_var rfl) (by omega))) (by walk_at "dl") (.bl _))) fun _ => Ev.r (b := false) (ev_op0 (i := (t.length : Int)) (j := 31) (Ev.r (b := false) (ev_lenS (er_var rfl) (by omega))) (by walk_at "dl") (.bl _)))) (by rw [right_is])) ?_
  walk_at "nm"
  refine q_cut (fun ρ => Le [.val false (iL ns), nI x, .no, .no, .no, .no, .no, .no] ρ) ?_ fun ρ1 l => ?_
  · have wrong : ∀ {D : Ends}, D.nx = Pst c B' (fun ρ => Le [.val false (iL ns), nI x, .no, .no, .no, .no, .no, .no] ρ) → (okZ t && !leadZ t) = false → Go c B' (tIfS (tNot (tTest (tCall (spF K R__law_refused) [] E0 (tCons (tVar 2) tNil)))) (tRet (tC (.bl false))) tNext) D [.val false (iL ns), nI x, .val false (.str t), .val false (.bool (okZ t)), .no, .no, .no, .no] := fun {D} eD nd =>
      go_when (x := !true) (eb_not (eb_test (Ev.r (b := false) (ev_call (ds := [.str t]) (ea_cons (er_var rfl) ea_nil) (show R__law_refused [.str t] (.bool true) from ⟨t, rfl, ht, nd, rfl⟩))))) (fun h => nomatch h) (fun _ => nx_pst' eD (by walk_at "le"))
    by_cases ok : okZ t = true
    · obtain ⟨h1, h2, h3⟩ := ok_len ok
      obtain ⟨n, _, hn⟩ := atI_some (xs := t.cps.toList) (i := 0) (Int.le_refl _) (by rw [toL_len]; omega)
      have le := lead_is hn
      refine go_if (x := okZ t && (decide (t = Str.ofString "0") || !decide ((⟨#[n]⟩ : Str) = Str.ofString "0"))) (eb_and (eb_test (er_var rfl)) fun _ => eb_or (eb_test (Ev.r (b := false) (ev_eqZ (er_var rfl) (Ev.r (b := false) ev_str)))) fun _ => eb_test (Ev.r (b := false) (ev_neZ (Ev.r (b := false) (ev_ixS (er_var rfl) (by walk_at "dl") (by omega) hn)) (Ev.r (b := false) ev_str)))) (fun h => ?_) (fun h => ?_)
      · have nl : (okZ t && !leadZ t) = true := by
          rw [le, ok]
          rw [ok] at h
          revert h
          cases decide (t = Str.ofString "0") <;> cases decide ((⟨#[n]⟩ : Str) = Str.ofString "0") <;> simp
        have hO : O_read_count C_NoText [.str t] (.inl (.int (valZ t))) := ⟨t, rfl, ht, .inl ⟨nl, rfl⟩⟩
        refine q_val (b := false) (d := .int (valZ t)) (ev_callO (ds := [.str t]) (ea_cons (er_var rfl) ea_nil) hO) ?_
        walk_at "nm"
        refine q_val (b := false) (d := .int 0) (by walk_at "dl") ?_
        walk_at "nm"
        refine q_forS (ev_var rfl) (fun i ρ => NumText.digitsVal (t.cps.toList.take i) < 10 ^ i ∧ Le [.val false (iL ns), nI x, .val false (.str t), .no, nI (valZ t), nI ((NumText.digitsVal (t.cps.toList.take i) : Nat) : Int), .no, .no] ρ) ⟨(show (0 : Nat) < 1 by decide), (by walk_at "le")⟩ (fun B2 i m ρ1 hm hI => ?_) (fun ρ1 hI => ?_)
        · obtain ⟨hb, l⟩ := hI
          have hi := (List.getElem?_eq_some_iff.mp hm).1
          rw [toL_len] at hi
          refine ⟨_, _, tg_weak l tg_name, ?_⟩
          walk_at "nm"
          have mf : m ∈ figuresZ.cps.toList := of_decide_eq_true (List.all_eq_true.mp h3 m (List.mem_of_getElem? hm))
          obtain ⟨rest, hr⟩ := idx_fig mf
          have mb := fig_mem mf
          have st := val_step hm
          have nb : NumText.digitsVal (t.cps.toList.take (i + 1)) < 10 ^ (i + 1) := by rw [st, Nat.pow_succ]; omega
          have p30 : 10 ^ i ≤ 10 ^ 30 := Nat.pow_le_pow_right (by decide) (by omega)
          generalize NumText.digitsVal (t.cps.toList.take i) = D at *
          have sD : Sz 200 (D : Int) := ⟨by have : 10 ^ 30 < 2 ^ 200 := by decide
                                            omega⟩
          refine go_val (b := false) (d := .int (10 * (D : Int) + ((m - 48 : Nat) : Int))) (ev_op0 (i := 10 * (D : Int)) (j := ((m - 48 : Nat) : Int)) (by walk_at "dl") (Ev.r (b := false) (ev_indexZ (z := figuresZ) (Ev.r (b := false) ev_str) (er_var rfl) hr)) (.int _)) (nx_pst ⟨nb, ?_⟩)
          rw [st, show ((D * 10 + (m - 48) : Nat) : Int) = 10 * (D : Int) + ((m - 48 : Nat) : Int) by omega]
          exact (by walk_at "le")
        · obtain ⟨_, l⟩ := hI
          rw [List.take_length] at l
          refine go_weak l ?_
          refine go_when (x := !true || (false || !decide (valZ t = valZ t))) (eb_or (by walk_at "dl") fun _ => eb_or (by walk_at "dl") fun _ => eb_test (Ev.r (b := false) (ev_neI (by walk_at "dl") (by walk_at "dl")))) (fun h => by simp at h) (fun _ => nx_pst (by walk_at "le"))
      · refine wrong rfl ?_
        rw [le, ok]
        rw [ok] at h
        revert h
        cases decide (t = Str.ofString "0") <;> cases decide ((⟨#[n]⟩ : Str) = Str.ofString "0") <;> simp
    · have ok : okZ t = false := by simpa using ok
      refine go_if (x := false) (EvB.is (x := okZ t && false) (eb_and (eb_test (er_var rfl)) fun h => by rw [ok] at h; cases h) (by rw [ok]; rfl)) (fun h => nomatch h) (fun _ => wrong rfl (by rw [ok]; rfl))
  refine go_weak l ?_
  refine q_valN (b := false) (ev_callN (ds := [.int x]) (by walk_at "dl") ⟨x, rfl, sx⟩) fun d hd => ?_
  obtain ⟨w, rfl, hw⟩ := hd
  walk_at "nm"
  have hN : R_is_name [.str w] (.bool (!(decide ((w.length : Int) = 0) || decide ((w.length : Int) > 8)) && allZ w lettersZ)) := ⟨w, rfl, hw, rfl⟩
  have hL : R__law_all_in [.str w, .str lettersZ] (.bool (allZ w lettersZ)) := ⟨w, lettersZ, rfl, rfl⟩
  have ei := name_is w
  generalize (!(decide ((w.length : Int) = 0) || decide ((w.length : Int) > 8)) && allZ w lettersZ) = yes at hN ei
  refine q_val (b := false) (d := .bool yes) (ev_call (ds := [.str w]) (ea_cons (er_var rfl) ea_nil) hN) ?_
  walk_at "nm"
  refine q_val (b := false) (d := .bool yes) (Ev.is (d := .bool (decide ((w.length : Int) > 0) && (decide ((w.length : Int) < 9) && allZ w lettersZ))) (ev_andV (Ev.r (b := false) (ev_op0 (i := (w.length : Int)) (j := 0) (Ev.r (b := false) (ev_lenS (er_var rfl) (by omega))) (by walk_at "dl") (.bl _))) fun _ => Ev.r (b := false) (ev_andV (Ev.r (b := false) (ev_op0 (i := (w.length : Int)) (j := 9) (Ev.r (b := false) (ev_lenS (er_var rfl) (by omega))) (by walk_at "dl") (.bl _))) fun _ => Ev.r (b := false) (ev_call (ds := [.str w, .str lettersZ]) (ea_cons (er_var rfl) (ea_cons (show EvR _ _ _ (.str lettersZ) from Ev.r (b := false) ev_str) ea_nil)) hL))) (by rw [ei])) ?_
  walk_at "nm"
  exact go_when (x := !true || !eqS (.bool yes) (.bool yes)) (eb_or (by walk_at "dl") fun _ => eb_test (Ev.r (b := false) (ev_ne (d := .bool yes) (e := .bool yes) (er_var rfl) (er_var rfl) rfl))) (fun h => by cases yes <;> simp [eqS] at h) (fun _ => nx_pst (by walk_at "le"))
end
theorem all_mk {P : Program} {w : World} {K : PySem.W.Frag} {h : Heap} {mg : Str → Option Value} {fa : Addr} (X : K.In h) (G : h.Ns mainGlobals mg) (hfa : mg "law" = some (.ref fa))
    {f0 : Addr} {od0 an0 : Option Addr} {sl0 : Array (Option Value)} {oc0 kV0 dc0 pm0 cd0 ct0 : Value}
    {f1 : Addr} {od1 an1 : Option Addr} {sl1 : Array (Option Value)} {oc1 kV1 dc1 pm1 cd1 ct1 : Value}
    {f2 : Addr} {od2 an2 : Option Addr} {sl2 : Array (Option Value)} {oc2 kV2 dc2 pm2 cd2 ct2 : Value}
    {f3 : Addr} {od3 an3 : Option Addr} {sl3 : Array (Option Value)} {oc3 kV3 dc3 pm3 cd3 ct3 : Value}
    {f4 : Addr} {od4 an4 : Option Addr} {sl4 : Array (Option Value)} {oc4 kV4 dc4 pm4 cd4 ct4 : Value}
    {f5 : Addr} {od5 an5 : Option Addr} {sl5 : Array (Option Value)} {oc5 kV5 dc5 pm5 cd5 ct5 : Value}
    {f6 : Addr} {od6 an6 : Option Addr} {sl6 : Array (Option Value)} {oc6 kV6 dc6 pm6 cd6 ct6 : Value}
    {f7 : Addr} {od7 an7 : Option Addr} {sl7 : Array (Option Value)} {oc7 kV7 dc7 pm7 cd7 ct7 : Value}
    {f8 : Addr} {od8 an8 : Option Addr} {sl8 : Array (Option Value)} {oc8 kV8 dc8 pm8 cd8 ct8 : Value}
    (a0 : PySem.W.nsIn K mainGlobals "all_in" = some (some (.ref f0))) (l0 : K.lookup f0 = some ⟨oc0, od0, .func (PySem.W.fnOf "all_in" "all_in" (defArgs s_all_in) (defBody s_all_in) (defScope s_all_in) .none kV0 dc0 pm0 an0 cd0 ct0), sl0⟩) (c0 : PySem.W.codeIn K cd0 "all_in" = true) (k0 : PySem.W.keepIn K (.ref f0) = true)
    (a1 : PySem.W.nsIn K mainGlobals "is_name" = some (some (.ref f1))) (l1 : K.lookup f1 = some ⟨oc1, od1, .func (PySem.W.fnOf "is_name" "is_name" (defArgs s_is_name) (defBody s_is_name) (defScope s_is_name) .none kV1 dc1 pm1 an1 cd1 ct1), sl1⟩) (c1 : PySem.W.codeIn K cd1 "is_name" = true) (k1 : PySem.W.keepIn K (.ref f1) = true)
    (a2 : PySem.W.nsIn K mainGlobals "read_count" = some (some (.ref f2))) (l2 : K.lookup f2 = some ⟨oc2, od2, .func (PySem.W.fnOf "read_count" "read_count" (defArgs s_read_count) (defBody s_read_count) (defScope s_read_count) .none kV2 dc2 pm2 an2 cd2 ct2), sl2⟩) (c2 : PySem.W.codeIn K cd2 "read_count" = true) (k2 : PySem.W.keepIn K (.ref f2) = true)
    (a3 : PySem.W.nsIn K mainGlobals "_law_mix" = some (some (.ref f3))) (l3 : K.lookup f3 = some ⟨oc3, od3, .func (PySem.W.fnOf "_law_mix" "_law_mix" (defArgs s__law_mix) (defBody s__law_mix) (defScope s__law_mix) .none kV3 dc3 pm3 an3 cd3 ct3), sl3⟩) (c3 : PySem.W.codeIn K cd3 "_law_mix" = true) (k3 : PySem.W.keepIn K (.ref f3) = true)
    (a4 : PySem.W.nsIn K mainGlobals "_law_text" = some (some (.ref f4))) (l4 : K.lookup f4 = some ⟨oc4, od4, .func (PySem.W.fnOf "_law_text" "_law_text" (defArgs s__law_text) (defBody s__law_text) (defScope s__law_text) .none kV4 dc4 pm4 an4 cd4 ct4), sl4⟩) (c4 : PySem.W.codeIn K cd4 "_law_text" = true) (k4 : PySem.W.keepIn K (.ref f4) = true)
    (a5 : PySem.W.nsIn K mainGlobals "_law_word" = some (some (.ref f5))) (l5 : K.lookup f5 = some ⟨oc5, od5, .func (PySem.W.fnOf "_law_word" "_law_word" (defArgs s__law_word) (defBody s__law_word) (defScope s__law_word) .none kV5 dc5 pm5 an5 cd5 ct5), sl5⟩) (c5 : PySem.W.codeIn K cd5 "_law_word" = true) (k5 : PySem.W.keepIn K (.ref f5) = true)
    (a6 : PySem.W.nsIn K mainGlobals "_law_refused" = some (some (.ref f6))) (l6 : K.lookup f6 = some ⟨oc6, od6, .func (PySem.W.fnOf "_law_refused" "_law_refused" (defArgs s__law_refused) (defBody s__law_refused) (defScope s__law_refused) .none kV6 dc6 pm6 an6 cd6 ct6), sl6⟩) (c6 : PySem.W.codeIn K cd6 "_law_refused" = true) (k6 : PySem.W.keepIn K (.ref f6) = true)
    (a7 : PySem.W.nsIn K mainGlobals "_law_all_in" = some (some (.ref f7))) (l7 : K.lookup f7 = some ⟨oc7, od7, .func (PySem.W.fnOf "_law_all_in" "_law_all_in" (defArgs s__law_all_in) (defBody s__law_all_in) (defScope s__law_all_in) .none kV7 dc7 pm7 an7 cd7 ct7), sl7⟩) (c7 : PySem.W.codeIn K cd7 "_law_all_in" = true) (k7 : PySem.W.keepIn K (.ref f7) = true)
    (a8 : PySem.W.nsIn K mainGlobals "law" = some (some (.ref f8))) (l8 : K.lookup f8 = some ⟨oc8, od8, .func (PySem.W.fnOf "law" "law" (defArgs s_law) (defBody s_law) (defScope s_law) .none kV8 dc8 pm8 an8 cd8 ct8), sl8⟩) (c8 : PySem.W.codeIn K cd8 "law" = true) (k8 : PySem.W.keepIn K (.ref f8) = true)
    (z_len : PySem.W.nsIn K mainGlobals "len" = some none)
    (z_int : PySem.W.nsIn K mainGlobals "int" = some none)
    (z_str : PySem.W.nsIn K mainGlobals "str" = some none)
    (z_range : PySem.W.nsIn K mainGlobals "range" = some none)
    (z_isinstance : PySem.W.nsIn K mainGlobals "isinstance" = some none)
    (z_ValueError : PySem.W.nsIn K mainGlobals "ValueError" = some none)
    (z_bool : PySem.W.nsIn K mainGlobals "bool" = some none)
    {ts_FIGURES : Tok} (zs_FIGURES : PySem.W.nsIn K mainGlobals "FIGURES" = some (some (.str "0123456789" ts_FIGURES)))
    {ts_LETTERS : Tok} (zs_LETTERS : PySem.W.nsIn K mainGlobals "LETTERS" = some (some (.str "abcdefghijklmnopqrstuvwxyz" ts_LETTERS)))
    {C_BookError C_NoOrder C_NoRoom C_NoRow C_NoName C_NoText : Addr}
    (xa_BookError : PySem.W.nsIn K mainGlobals "BookError" = some (some (.ref C_BookError)))
    (xa_NoOrder : PySem.W.nsIn K mainGlobals "NoOrder" = some (some (.ref C_NoOrder)))
    (xa_NoRoom : PySem.W.nsIn K mainGlobals "NoRoom" = some (some (.ref C_NoRoom)))
    (xa_NoRow : PySem.W.nsIn K mainGlobals "NoRow" = some (some (.ref C_NoRow)))
    (xa_NoName : PySem.W.nsIn K mainGlobals "NoName" = some (some (.ref C_NoName)))
    (xa_NoText : PySem.W.nsIn K mainGlobals "NoText" = some (some (.ref C_NoText)))
    (xhg_NoText : PySem.W.findIn K (.ref C_NoText) "__getattribute__" = some (some (.builtin "BaseException.__getattribute__")))
    (xhk_NoText : PySem.W.findIn K (.ref C_NoText) "__getattr__" = some none)
    (xhd_NoText : PySem.W.hasDictIn K C_NoText = true)
    (xha_NoText : PySem.W.findIn K (.ref C_NoText) "__class__" = some (some (.builtin "object.__class__")))
    (xhn_NoText : PySem.W.specialIn K (.builtin "object.__class__") "__get__" = some (some (.builtin "getset_descriptor.__get__")))
    (xht_NoText : PySem.W.takesIn K (.builtin "object.__class__") = some true)
    (xhm_NoText : PySem.W.mroIn K C_NoText (.type "object") = some true)
    (xx_NoText : PySem.W.excIn K C_NoText [.type "ValueError", .type "Exception", .type "BaseException", .type "object"] "ValueError.__new__" = true)
    (xk_NoText : PySem.W.keepIn K (.ref C_NoText) = true)
    (xb_NoText : PySem.W.subIn K (.ref C_NoText) (.type "BaseException") = some true)
    (xt_NoText : PySem.W.typeIn K (.ref C_NoText) = some (.type "type"))
    (xhd_BookError : PySem.W.hasDictIn K C_BookError = true)
    (xb_BookError : PySem.W.subIn K (.ref C_BookError) (.type "BaseException") = some true)
    (xt_BookError : PySem.W.typeIn K (.ref C_BookError) = some (.type "type"))
    (xhd_NoOrder : PySem.W.hasDictIn K C_NoOrder = true)
    (xt_NoOrder : PySem.W.typeIn K (.ref C_NoOrder) = some (.type "type"))
    (xhd_NoRoom : PySem.W.hasDictIn K C_NoRoom = true)
    (xt_NoRoom : PySem.W.typeIn K (.ref C_NoRoom) = some (.type "type"))
    (xhd_NoRow : PySem.W.hasDictIn K C_NoRow = true)
    (xt_NoRow : PySem.W.typeIn K (.ref C_NoRow) = some (.type "type"))
    (xhd_NoName : PySem.W.hasDictIn K C_NoName = true)
    (xt_NoName : PySem.W.typeIn K (.ref C_NoName) = some (.type "type"))
    (xs_NoText_NoText : PySem.W.subIn K (.ref C_NoText) (.ref C_NoText) = some true)
    (xs_NoText_NoOrder : PySem.W.subIn K (.ref C_NoText) (.ref C_NoOrder) = some false)
    (xs_NoText_NoRoom : PySem.W.subIn K (.ref C_NoText) (.ref C_NoRoom) = some false)
    (xs_NoText_NoRow : PySem.W.subIn K (.ref C_NoText) (.ref C_NoRow) = some false)
    (xs_NoText_NoName : PySem.W.subIn K (.ref C_NoText) (.ref C_NoName) = some false)
    (xs_NoText_ValueError : PySem.W.subIn K (.ref C_NoText) (.type "ValueError") = some true)
    (xs_NoText_BookError : PySem.W.subIn K (.ref C_NoText) (.ref C_BookError) = some true)
    : ∃ fd : FuncData, (∀ (s : Shared) (v : Value), BindsTo s fd ⟨[v], []⟩ [("_law_script", v)]) ∧ ∀ base : Heap, K.In base → base.Ns mainGlobals mg → FnOk P w K mg base CX0 4 fa fd ["_law_script"] (spF K R_law) := by
  have e := hfa.symm.trans (PySem.W.mg_of X G a8)
  cases e
  have T : Tb mg := ⟨PySem.W.mg_none_of X G z_len, PySem.W.mg_none_of X G z_int, PySem.W.mg_none_of X G z_str, PySem.W.mg_none_of X G z_range, PySem.W.mg_none_of X G z_isinstance, PySem.W.mg_none_of X G z_ValueError, PySem.W.mg_none_of X G z_bool, ⟨_, PySem.W.mg_of X G zs_FIGURES, _, rfl⟩, ⟨_, PySem.W.mg_of X G zs_LETTERS, _, rfl⟩⟩
  have EX_ : EX K mg C_BookError C_NoOrder C_NoRoom C_NoRow C_NoName C_NoText := ⟨PySem.W.mg_of X G xa_BookError, PySem.W.mg_of X G xa_NoOrder, PySem.W.mg_of X G xa_NoRoom, PySem.W.mg_of X G xa_NoRow, PySem.W.mg_of X G xa_NoName, PySem.W.mg_of X G xa_NoText, ⟨PySem.W.mg_of X G xa_NoText, xx_NoText, xk_NoText, xb_NoText, xt_NoText, ⟨xhg_NoText, xhk_NoText, xb_NoText, xhd_NoText, xha_NoText, xhn_NoText, xht_NoText, xhm_NoText⟩⟩, PySem.W.exm_ref xb_BookError xhd_BookError xt_BookError xs_NoText_BookError, DL.kit_ref xs_NoText_NoText xhd_NoOrder xt_NoOrder xs_NoText_NoOrder, DL.kit_ref xs_NoText_NoText xhd_NoRoom xt_NoRoom xs_NoText_NoRoom, DL.kit_ref xs_NoText_NoText xhd_NoRow xt_NoRow xs_NoText_NoRow, DL.kit_ref xs_NoText_NoText xhd_NoName xt_NoName xs_NoText_NoName, DL.kit_ref xs_NoText_NoText xhd_NoText xt_NoText xs_NoText_NoText, DL.kit_ve xs_NoText_ValueError⟩
  have F0 := fun_mk (st := s_all_in) l0 c0 k0
  have D0 : Dfn K mg "all_in" s_all_in ["text", "signs", "most"] := ⟨f0, _, F0, PySem.W.mg_of X G a0, F0.binds fun _ _ _ _ _ _ us hl => match us, hl with | [_, _, _], _ => rfl⟩
  have F1 := fun_mk (st := s_is_name) l1 c1 k1
  have D1 : Dfn K mg "is_name" s_is_name ["text"] := ⟨f1, _, F1, PySem.W.mg_of X G a1, F1.binds fun _ _ _ _ _ _ us hl => match us, hl with | [_], _ => rfl⟩
  have F2 := fun_mk (st := s_read_count) l2 c2 k2
  have D2 : Dfn K mg "read_count" s_read_count ["text"] := ⟨f2, _, F2, PySem.W.mg_of X G a2, F2.binds fun _ _ _ _ _ _ us hl => match us, hl with | [_], _ => rfl⟩
  have F3 := fun_mk (st := s__law_mix) l3 c3 k3
  have D3 : Dfn K mg "_law_mix" s__law_mix ["_law_number", "_law_k"] := ⟨f3, _, F3, PySem.W.mg_of X G a3, F3.binds fun _ _ _ _ _ _ us hl => match us, hl with | [_, _], _ => rfl⟩
  have F4 := fun_mk (st := s__law_text) l4 c4 k4
  have D4 : Dfn K mg "_law_text" s__law_text ["_law_cell"] := ⟨f4, _, F4, PySem.W.mg_of X G a4, F4.binds fun _ _ _ _ _ _ us hl => match us, hl with | [_], _ => rfl⟩
  have F5 := fun_mk (st := s__law_word) l5 c5 k5
  have D5 : Dfn K mg "_law_word" s__law_word ["_law_cell"] := ⟨f5, _, F5, PySem.W.mg_of X G a5, F5.binds fun _ _ _ _ _ _ us hl => match us, hl with | [_], _ => rfl⟩
  have F6 := fun_mk (st := s__law_refused) l6 c6 k6
  have D6 : Dfn K mg "_law_refused" s__law_refused ["_law_text_here"] := ⟨f6, _, F6, PySem.W.mg_of X G a6, F6.binds fun _ _ _ _ _ _ us hl => match us, hl with | [_], _ => rfl⟩
  have F7 := fun_mk (st := s__law_all_in) l7 c7 k7
  have D7 : Dfn K mg "_law_all_in" s__law_all_in ["_law_text_here", "_law_signs"] := ⟨f7, _, F7, PySem.W.mg_of X G a7, F7.binds fun _ _ _ _ _ _ us hl => match us, hl with | [_, _], _ => rfl⟩
  have F8 := fun_mk (st := s_law) l8 c8 k8
  refine ⟨PySem.W.fnOf "law" "law" (defArgs s_law) (defBody s_law) (defScope s_law) .none kV8 dc8 pm8 an8 cd8 ct8, fun s v => .of_eq rfl, fun base KB GB => ?_⟩
  have C0 := ok_all_in (P := P) (w := w) (base := base) D0 T EX_ 
  have C1 := ok_is_name (P := P) (w := w) (base := base) D1 T EX_ C0
  have C2 := ok_read_count (P := P) (w := w) (base := base) D2 T EX_ C0
  have C3 := ok__law_mix (P := P) (w := w) (base := base) D3 T EX_ 
  have C4 := ok__law_text (P := P) (w := w) (base := base) D4 T EX_ C3
  have C5 := ok__law_word (P := P) (w := w) (base := base) D5 T EX_ C3
  have C6 := ok__law_refused (P := P) (w := w) (base := base) D6 T EX_ C2
  have C7 := ok__law_all_in (P := P) (w := w) (base := base) D7 T EX_ 
  exact ok_law F8 T EX_ C4 C5 C1 C7 C2 C6
theorem walk {l : PySem.W.OpenLaw} {q : Program} {loose : List Str} {XP : (Str → Option Value) → Heap → Prop} {YP : World → Heap → Prop} {d : DefRec} {K : Params → PySem.W.Frag} (hn : l.most = some 63) (hdf : d.params.defaults = [])
    (hY : ∀ (w : World) (h : Heap), YP w h → (K w.params).In h)
    (F : ∀ (w : World) (mg : Str → Option Value) (fa : Addr) (h : Heap), (K w.params).In h → h.Ns mainGlobals mg → mg d.name = some (.ref fa) →
      ∃ fd : FuncData, (∀ (s : Shared) (u : Value), BindsTo s fd ⟨[u], []⟩ [("_law_script", u)]) ∧ ∀ base : Heap, (K w.params).In base → base.Ns mainGlobals mg → FnOk l.prog w (K w.params) mg base CX0 4 fa fd ["_law_script"] (spF (K w.params) R_law)) :
    PySem.W.WalkO q loose XP YP l.row.toRowW d [] (fun f vs => PySem.call f vs) :=
  L2.walk_ofB (n := 63) (k := 4) (x := "_law_script") (CX := fun _ => CX0) (sp := fun w => spF (K w.params) R_law) hn (by decide) hdf ⟨rfl, by decide, by decide⟩ hY F
    (fun w H a ns hl hb _ hS => DL.law_in hS (law_true ns hl hb)) fun _ _ _ _ _ z => z
end LW
open PySem PySem.W PyProof.Rows in
set_option maxRecDepth 100000 in
set_option maxHeartbeats 0 in
theorem PySem.Challenge.cw_hastebook_k61_numbers_and_names_holds : PySem.Challenge.rw_hastebook_k61_numbers_and_names.Holds := by
  w_on; o_law; k_head; (case hw => w_witness2)
  k_fill
  refine LW.walk (l := PySem.Challenge.rw_hastebook_k61_numbers_and_names) rfl rfl (fun w h Y => PySem.W.kIn_of Y) ?F
  case F =>
    intro w mg fa h KX G hmg
    refine' LW.all_mk KX G hmg ?a0 ?l0 ?c0 ?k0 ?a1 ?l1 ?c1 ?k1 ?a2 ?l2 ?c2 ?k2 ?a3 ?l3 ?c3 ?k3 ?a4 ?l4 ?c4 ?k4 ?a5 ?l5 ?c5 ?k5 ?a6 ?l6 ?c6 ?k6 ?a7 ?l7 ?c7 ?k7 ?a8 ?l8 ?c8 ?k8 ?z_len ?z_int ?z_str ?z_range ?z_isinstance ?z_ValueError ?z_bool ?zs_FIGURES ?zs_LETTERS ?xa_BookError ?xa_NoOrder ?xa_NoRoom ?xa_NoRow ?xa_NoName ?xa_NoText ?xhg_NoText ?xhk_NoText ?xhd_NoText ?xha_NoText ?xhn_NoText ?xht_NoText ?xhm_NoText ?xx_NoText ?xk_NoText ?xb_NoText ?xt_NoText ?xhd_BookError ?xb_BookError ?xt_BookError ?xhd_NoOrder ?xt_NoOrder ?xhd_NoRoom ?xt_NoRoom ?xhd_NoRow ?xt_NoRow ?xhd_NoName ?xt_NoName ?xs_NoText_NoText ?xs_NoText_NoOrder ?xs_NoText_NoRoom ?xs_NoText_NoRow ?xs_NoText_NoName ?xs_NoText_ValueError ?xs_NoText_BookError
    (case a0 => k_is)
    (case l0 => k_is)
    (case c0 => k_is)
    (case k0 => k_is)
    (case a1 => k_is)
    (case l1 => k_is)
    (case c1 => k_is)
    (case k1 => k_is)
    (case a2 => k_is)
    (case l2 => k_is)
    (case c2 => k_is)
    (case k2 => k_is)
    (case a3 => k_is)
    (case l3 => k_is)
    (case c3 => k_is)
    (case k3 => k_is)
    (case a4 => k_is)
    (case l4 => k_is)
    (case c4 => k_is)
    (case k4 => k_is)
    (case a5 => k_is)
    (case l5 => k_is)
    (case c5 => k_is)
    (case k5 => k_is)
    (case a6 => k_is)
    (case l6 => k_is)
    (case c6 => k_is)
    (case k6 => k_is)
    (case a7 => k_is)
    (case l7 => k_is)
    (case c7 => k_is)
    (case k7 => k_is)
    (case a8 => k_is)
    (case l8 => k_is)
    (case c8 => k_is)
    (case k8 => k_is)
    (case z_len => k_is)
    (case z_int => k_is)
    (case z_str => k_is)
    (case z_range => k_is)
    (case z_isinstance => k_is)
    (case z_ValueError => k_is)
    (case z_bool => k_is)
    (case zs_FIGURES => k_is)
    (case zs_LETTERS => k_is)
    (case xa_BookError => k_is)
    (case xa_NoOrder => k_is)
    (case xa_NoRoom => k_is)
    (case xa_NoRow => k_is)
    (case xa_NoName => k_is)
    (case xa_NoText => k_is)
    (case xhg_NoText => k_is)
    (case xhk_NoText => k_is)
    (case xhd_NoText => k_is)
    (case xha_NoText => k_is)
    (case xhn_NoText => k_is)
    (case xht_NoText => k_is)
    (case xhm_NoText => k_is)
    (case xx_NoText => k_exc)
    (case xk_NoText => k_is)
    (case xb_NoText => k_is)
    (case xt_NoText => k_is)
    (case xhd_BookError => k_is)
    (case xb_BookError => k_is)
    (case xt_BookError => k_is)
    (case xhd_NoOrder => k_is)
    (case xt_NoOrder => k_is)
    (case xhd_NoRoom => k_is)
    (case xt_NoRoom => k_is)
    (case xhd_NoRow => k_is)
    (case xt_NoRow => k_is)
    (case xhd_NoName => k_is)
    (case xt_NoName => k_is)
    (case xs_NoText_NoText => k_is)
    (case xs_NoText_NoOrder => k_is)
    (case xs_NoText_NoRoom => k_is)
    (case xs_NoText_NoRow => k_is)
    (case xs_NoText_NoName => k_is)
    (case xs_NoText_ValueError => k_is)
    (case xs_NoText_BookError => k_is)
#print axioms PySem.Challenge.cw_hastebook_k61_numbers_and_names_holds
