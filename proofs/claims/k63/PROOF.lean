import PyProof.Rows.All
import Wide.All
import OpenK.AllK
import Wide.FinOn
import HandS.Evl
import HandS.Deep
import HandS.NoneIn
import HandS.Words
import HandS.WordsExc
import HandS.SetFor
import HandS.More
import HandS.SortKw
import HandS.Wide
import HandS.Conv
import HandS.Style
import HandS.Text
import HandS.IsInst
import KE.DataMinMax
import HandS.Remove
import HandS.ExcValue
import HandS.ExcIs
import HandS.ExcOwn
import HandS.WideBits
import HandS.TupLe
import HandS.Codes
import HandS.Replace
import HandS.Iter
import PyProof.StrOps2
import KE.GoesRaise
import HandS.EndBits
import PySem.Challenge.RW_hastebook_k63_rows_refused
set_option Elab.async false
set_option linter.all false
set_option maxRecDepth 100000
set_option maxHeartbeats 4000000
section
set_option maxRecDepth 100000
set_option maxHeartbeats 2000000
/-! A layer of data: what a reading evaluates to, as plain data, with no heap in sight. -/
namespace DL
open PySem L2
abbrev Ex := Evl.Ex
abbrev St := L2.St

/-! ### deep data at a value -/
/-- which addresses the data may use, and which lists may stand in the written part -/
structure Mode where
  P : Addr → Prop
  L : Addr → List V → Prop
/-- a list of the written part -/
def KL (K : PySem.W.Frag) (a : Addr) (xs : List V) : Prop := ∃ (o : Obj) (its : Array Value) (n : Nat), K.lookup a = some o ∧ o.cls = .type "list" ∧ o.dict = none ∧ o.data = .seq its n ∧ its.size ≤ sizeLine ∧ Vals xs its.toList
abbrev only (P : Addr → Prop) : Mode := ⟨P, fun _ _ => False⟩
abbrev T1 (K : PySem.W.Frag) : Mode := ⟨fun _ => True, KL K⟩
mutual
inductive Dd (m : Mode) (H : Hp) : V → PyData → Prop
  | non : Dd m H .non .none
  | bl (b : Bool) : Dd m H (.bl b) (.bool b)
  | int (i : Int) : Dd m H (.int i) (.int i)
  | str (x : Str) : Dd m H (.str x) (.str x)
  | lst {a : Addr} {xs : List V} {ds : List PyData} : (m.P a ∧ Rd H a (.lst xs)) ∨ m.L a xs → DdAll m H xs ds → Dd m H (.ref a) (.list ds)
  | tup {a : Addr} {xs : List V} {ds : List PyData} : m.P a → Rd H a (.tup xs) → DdAll m H xs ds → Dd m H (.ref a) (.tuple ds)
  | dis {a : Addr} {kvs : List (Key × V)} {ks : List Str} {ds : List PyData} {l : List (PyData × PyData)} : m.P a → Rd H a (.dK kvs) → kvs.map (·.1) = ks.map Sum.inr → l = (ks.map PyData.str).zip ds → ks.length = ds.length → DdAll m H (kvs.map (·.2)) ds → Dd m H (.ref a) (.dict l)
  | ins {a C dx : Addr} {fs : List (Str × V)} {ds : List PyData} {l : List (PyData × PyData)} : m.P a → H a = some (.ins C dx fs) → l = (.none, .int (C : Int)) :: (fs.map fun p => PyData.str p.1).zip ds → DdAll m H (fs.map (·.2)) ds → Dd m H (.ref a) (.dict l)
  | dic {a : Addr} {kvs : List (Key × V)} {ks : List Int} {ds : List PyData} {l : List (PyData × PyData)} : m.P a → Rd H a (.dK kvs) → kvs.map (·.1) = ks.map Sum.inl → l = (ks.map PyData.int).zip ds → ks.length = ds.length → DdAll m H (kvs.map (·.2)) ds → Dd m H (.ref a) (.dict l)
inductive DdAll (m : Mode) (H : Hp) : List V → List PyData → Prop
  | nil : DdAll m H [] []
  | cons {v : V} {vs : List V} {d : PyData} {ds : List PyData} : Dd m H v d → DdAll m H vs ds → DdAll m H (v :: vs) (d :: ds)
end
/-- a mode that allows more -/
structure MoreM (m m' : Mode) : Prop where
  P : ∀ a, m.P a → m'.P a
  L : ∀ a xs, m.L a xs → m'.L a xs
theorem MoreM.refl (m : Mode) : MoreM m m := ⟨fun _ h => h, fun _ _ h => h⟩
section
variable {m m' : Mode} {P P' : Addr → Prop} {H H' : Hp} {K : PySem.W.Frag}
theorem rd_mono (h : ∀ a u, m.P a → H a = some u → m'.P a ∧ H' a = some u) {a : Addr} {u : HO} (p : m.P a) (r : Rd H a u) : m'.P a ∧ Rd H' a u := by
  rcases r with r | ⟨o, r⟩
  · exact ⟨(h a _ p r).1, .inl (h a _ p r).2⟩
  · exact ⟨(h a _ p r).1, .inr ⟨o, (h a _ p r).2⟩⟩
mutual
theorem Dd.mono (h : ∀ a u, m.P a → H a = some u → m'.P a ∧ H' a = some u) (hl : ∀ a xs, m.L a xs → m'.L a xs) : ∀ {v : V} {d : PyData}, Dd m H v d → Dd m' H' v d
  | _, _, .non => .non
  | _, _, .bl b => .bl b
  | _, _, .int i => .int i
  | _, _, .str x => .str x
  | _, _, .lst r q => .lst (r.elim (fun r => .inl (rd_mono h r.1 r.2)) fun r => .inr (hl _ _ r)) (DdAll.mono h hl q)
  | _, _, .tup p r q => .tup (rd_mono h p r).1 (rd_mono h p r).2 (DdAll.mono h hl q)
  | _, _, .dis p r e1 e2 e3 q => .dis (rd_mono h p r).1 (rd_mono h p r).2 e1 e2 e3 (DdAll.mono h hl q)
  | _, _, .ins p r e1 q => .ins (h _ _ p r).1 (h _ _ p r).2 e1 (DdAll.mono h hl q)
  | _, _, .dic p r e1 e2 e3 q => .dic (rd_mono h p r).1 (rd_mono h p r).2 e1 e2 e3 (DdAll.mono h hl q)
theorem DdAll.mono (h : ∀ a u, m.P a → H a = some u → m'.P a ∧ H' a = some u) (hl : ∀ a xs, m.L a xs → m'.L a xs) : ∀ {v : List V} {d : List PyData}, DdAll m H v d → DdAll m' H' v d
  | _, _, .nil => .nil
  | _, _, .cons p q => .cons (Dd.mono h hl p) (DdAll.mono h hl q)
end
theorem Dd.up {v : V} {d : PyData} (x : Dd m H v d) (h : MoreM m m') (e : Ex H H') : Dd m' H' v d := x.mono (fun a u p r => ⟨h.P a p, e a u r⟩) h.L
theorem DdAll.up {v : List V} {d : List PyData} (x : DdAll m H v d) (h : MoreM m m') (e : Ex H H') : DdAll m' H' v d := x.mono (fun a u p r => ⟨h.P a p, e a u r⟩) h.L
theorem Dd.ex {v : V} {d : PyData} (x : Dd m H v d) (e : Ex H H') : Dd m H' v d := x.up (.refl _) e
theorem DdAll.ex {v : List V} {d : List PyData} (x : DdAll m H v d) (e : Ex H H') : DdAll m H' v d := x.up (.refl _) e
theorem Dd.all {v : V} {d : PyData} (x : Dd m H v d) (h : ∀ a xs, m.L a xs → KL K a xs) (e : Ex H H') : Dd (T1 K) H' v d := x.up ⟨fun _ _ => trivial, h⟩ e
mutual
theorem Dd.dp (hl : ∀ a xs, m.L a xs → KL K a xs) : ∀ {v : V} {d : PyData}, Dd m H v d → d.canLay0 = true → Dp K H v d
  | _, _, .non, _ => .non
  | _, _, .bl b, _ => .bl b
  | _, _, .int i, _ => .int i
  | _, _, .str x, _ => .str x
  | _, _, .lst r q, h => .lst (r.elim (fun r => .inl r.2) fun r => .inr (hl _ _ r)) (DdAll.dp hl q (by simp only [PyData.canLay0] at h; exact h))
  | _, _, .tup p r q, h => .tup (Or.inl r) (DdAll.dp hl q (by simp only [PyData.canLay0] at h; exact h))
  | _, _, .dis _ _ _ _ _ _, h => by simp [PyData.canLay0] at h
  | _, _, .ins _ _ _ _, h => by simp [PyData.canLay0] at h
  | _, _, .dic _ _ _ _ _ _, h => by simp [PyData.canLay0] at h
theorem DdAll.dp (hl : ∀ a xs, m.L a xs → KL K a xs) : ∀ {v : List V} {d : List PyData}, DdAll m H v d → PyData.canLayAll0 d = true → DpAll K H v d
  | _, _, .nil, _ => .nil
  | _, _, .cons p q, h => by
    simp only [PyData.canLayAll0, Bool.and_eq_true] at h
    exact .cons (Dd.dp hl p h.1) (DdAll.dp hl q h.2)
end
theorem DdAll.length : ∀ {vs : List V} {ds : List PyData}, DdAll m H vs ds → vs.length = ds.length
  | _, _, .nil => rfl
  | _, _, .cons _ q => by simp [DdAll.length q]
theorem DdAll.get : ∀ {vs : List V} {ds : List PyData} {i : Nat} {d : PyData}, DdAll m H vs ds → ds[i]? = some d → ∃ v, vs[i]? = some v ∧ Dd m H v d
  | _, _, i, d, .nil, h => by simp at h
  | _, _, 0, d, .cons p q, h => by simp at h; subst h; exact ⟨_, rfl, p⟩
  | _, _, i + 1, d, .cons p q, h => by
    obtain ⟨v, a, b⟩ := DdAll.get (i := i) (d := d) q (by simpa using h)
    exact ⟨v, by simpa using a, b⟩
theorem DdAll.getV : ∀ {vs : List V} {ds : List PyData} {i : Nat} {v : V}, DdAll m H vs ds → vs[i]? = some v → ∃ d, ds[i]? = some d ∧ Dd m H v d
  | _, _, i, d, .nil, h => by simp at h
  | _, _, 0, d, .cons p q, h => by simp at h; subst h; exact ⟨_, rfl, p⟩
  | _, _, i + 1, d, .cons p q, h => by
    obtain ⟨v, a, b⟩ := DdAll.getV (i := i) (v := d) q (by simpa using h)
    exact ⟨v, by simpa using a, b⟩
theorem DdAll.append : ∀ {vs ws : List V} {ds es : List PyData}, DdAll m H vs ds → DdAll m H ws es → DdAll m H (vs ++ ws) (ds ++ es)
  | _, _, _, _, .nil, r => r
  | _, _, _, _, .cons p q, r => .cons p (DdAll.append q r)
theorem DdAll.one {v : V} {d : PyData} (h : Dd m H v d) : DdAll m H [v] [d] := .cons h .nil
theorem DdAll.set {v : V} {d : PyData} (h : Dd m H v d) : ∀ {vs : List V} {ds : List PyData} (i : Nat), DdAll m H vs ds → DdAll m H (vs.set i v) (ds.set i d)
  | _, _, _, .nil => .nil
  | _, _, 0, .cons p q => .cons h q
  | _, _, i + 1, .cons p q => .cons p (DdAll.set h i q)
theorem DdAll.take : ∀ {vs : List V} {ds : List PyData} (n : Nat), DdAll m H vs ds → DdAll m H (vs.take n) (ds.take n)
  | _, _, 0, _ => by simp; exact .nil
  | _, _, n + 1, .nil => .nil
  | _, _, n + 1, .cons p q => .cons p (DdAll.take n q)
theorem DdAll.drop : ∀ {vs : List V} {ds : List PyData} (n : Nat), DdAll m H vs ds → DdAll m H (vs.drop n) (ds.drop n)
  | _, _, 0, q => q
  | _, _, n + 1, .nil => .nil
  | _, _, n + 1, .cons p q => DdAll.drop n q
theorem DdAll.eraseIdx : ∀ {vs : List V} {ds : List PyData} (n : Nat), DdAll m H vs ds → DdAll m H (vs.eraseIdx n) (ds.eraseIdx n)
  | _, _, _, .nil => .nil
  | _, _, 0, .cons p q => q
  | _, _, n + 1, .cons p q => .cons p (DdAll.eraseIdx n q)
theorem DdAll.reverse : ∀ {vs : List V} {ds : List PyData}, DdAll m H vs ds → DdAll m H vs.reverse ds.reverse
  | _, _, .nil => .nil
  | _, _, .cons p q => by rw [List.reverse_cons, List.reverse_cons]; exact DdAll.append (DdAll.reverse q) (DdAll.one p)
/-- a list of ints -/
theorem DdAll.ints : ∀ {vs : List V} {ns : List Int}, DdAll m H vs (ns.map PyData.int) → vs = ns.map V.int
  | _, [], .nil => rfl
  | _, n :: ns, .cons p q => by cases p; rw [DdAll.ints q]; rfl
theorem DdAll.ofInts : ∀ (ns : List Int), DdAll m H (ns.map V.int) (ns.map PyData.int)
  | [] => .nil
  | n :: ns => .cons (.int n) (DdAll.ofInts ns)
theorem DdAll.strs : ∀ {vs : List V} {ns : List Str}, DdAll m H vs (ns.map PyData.str) → vs = ns.map V.str
  | _, [], .nil => rfl
  | _, n :: ns, .cons p q => by cases p; rw [DdAll.strs q]; rfl
theorem DdAll.ofStrs : ∀ (ns : List Str), DdAll m H (ns.map V.str) (ns.map PyData.str)
  | [] => .nil
  | n :: ns => .cons (.str n) (DdAll.ofStrs ns)
theorem DdAll.bls : ∀ {vs : List V} {ns : List Bool}, DdAll m H vs (ns.map PyData.bool) → vs = ns.map V.bl
  | _, [], .nil => rfl
  | _, n :: ns, .cons p q => by cases p; rw [DdAll.bls q]; rfl
end

/-! ### the state: slots told as data -/
/-- H0: the heap at the def's entry; NW: what counts as new -/
structure Cq (K : PySem.W.Frag) where
  H0 : Hp
  NW : Addr → Prop
  ok : ∀ a, H0 a = none → NW a
def Cq.pw {K : PySem.W.Frag} (c : Cq K) : Bool → Mode
  | true => only c.NW
  | false => T1 K
theorem Cq.any {K : PySem.W.Frag} {c : Cq K} {b : Bool} {a : Addr} (h : c.H0 a = none) : (c.pw b).P a := by
  cases b
  · trivial
  · exact c.ok a h
theorem Cq.kl {K : PySem.W.Frag} {c : Cq K} {b : Bool} : ∀ a xs, (c.pw b).L a xs → KL K a xs := fun a xs h => by
  cases b
  · exact h
  · exact h.elim
theorem Cq.more {K : PySem.W.Frag} {c : Cq K} {b : Bool} : MoreM (c.pw b) (c.pw false) := ⟨fun _ _ => trivial, Cq.kl⟩
/-- a part of the heap that only one slot knows: its addresses, what holds of it -/
structure Res where
  Z : Addr → Prop
  ph : Hp → Hp → Prop
  stay : ∀ F H F' H', ph F H → Ex F F' → (∀ a, Z a → H' a = H a) → ph F' H'
/-- no: unknown; val: data that stands still (b: all new); own: a list that only this slot holds -/
inductive Sl where
  | no
  | val (b : Bool) (d : PyData)
  | own (b : Bool) (ds : List PyData)
  | raw (v : V)
  | exc (cls : Value)
  | res (v : V) (R : Res)
  | dic (b : Bool) (kd : List (Int × PyData))
  | tab (b : Bool) (ds : List PyData)
/-- an error that was caught: the object, of this class -/
def Caught (cls : Value) (a : Addr) : Heap → Prop := fun h => ∃ oe : Obj, h.get? a = some oe ∧ oe.cls = cls ∧ oe.dict = none ∧ ∃ vs, oe.data = .fields vs
abbrev nI (n : Int) : Sl := .val false (.int n)
abbrev vB (n : Bool) : Sl := .val false (.bool n)
abbrev Rho := List Sl
def Sl.Owns : Sl → Option V → Addr → Prop
  | .own _ _, o, a => o = some (V.ref a)
  | .res _ R, _, a => R.Z a
  | .dic _ _, o, a => o = some (V.ref a)
  | .tab _ _, o, a => o = some (V.ref a)
  | _, _, _ => False
/-- no slot knows this address as its own -/
def NotOwn (ρ : Rho) (σ : St) (p : Addr) : Prop := ∀ (i : Nat) (s : Sl) (o : Option V), ρ[i]? = some s → σ[i]? = some o → ¬ s.Owns o p
/-- rows: lists that are known -/
def RowsIn (F : Hp) (xs : List V) : Prop := ∀ x ∈ xs, ∃ q ys, x = V.ref q ∧ F q = some (.lst ys)
theorem RowsIn.ex {F F' : Hp} {xs : List V} (h : RowsIn F xs) (e : Ex F F') : RowsIn F' xs := fun x hx => by
  obtain ⟨q, ys, e1, e2⟩ := h x hx
  exact ⟨q, ys, e1, e _ _ e2⟩
/-- the pairs of a dict with int keys -/
def DcAll (m : Mode) (H : Hp) (kvs : List (Key × V)) (kd : List (Int × PyData)) : Prop := kvs.map (·.1) = kd.map (fun p => Sum.inl p.1) ∧ DdAll m H (kvs.map (·.2)) (kd.map (·.2))
def SlOk {K : PySem.W.Frag} (c : Cq K) (F H : Hp) : Sl → Option V → Prop
  | .no, _ => True
  | .val b d, o => ∃ v, o = some v ∧ Dd (c.pw b) F v d
  | .own b ds, o => ∃ a xs, o = some (.ref a) ∧ F a = none ∧ H a = some (.lst xs) ∧ DdAll (c.pw b) F xs ds
  | .raw v, o => o = some v
  | .exc cls, o => ∃ a, o = some (.ref a) ∧ F a = some (.ext (Caught cls a))
  | .res v R, o => o = some v ∧ (∀ a, R.Z a → F a = none ∧ H a ≠ none) ∧ R.ph F H
  | .dic b kd, o => ∃ a kvs, o = some (.ref a) ∧ F a = none ∧ H a = some (.dK kvs) ∧ DcAll (c.pw b) F kvs kd
  | .tab b ds, o => ∃ a xs, o = some (.ref a) ∧ F a = none ∧ H a = some (.lst xs) ∧ DdAll (c.pw b) F xs ds ∧ RowsIn F xs
theorem SlOk.owned {K : PySem.W.Frag} {c : Cq K} {F H : Hp} {s : Sl} {o : Option V} {a : Addr} (x : SlOk c F H s o) (h : s.Owns o a) : F a = none ∧ H a ≠ none := by
  cases s with
  | own b ds =>
    obtain ⟨a', xs, e, f0, h1, d⟩ := x
    have h : o = some (V.ref a) := h
    rw [e] at h
    cases h
    exact ⟨f0, by rw [h1]; simp⟩
  | res v R => exact x.2.1 a h
  | dic b kd =>
    obtain ⟨a', xs, e, f0, h1, d⟩ := x
    have h : o = some (V.ref a) := h
    rw [e] at h
    cases h
    exact ⟨f0, by rw [h1]; simp⟩
  | tab b ds =>
    obtain ⟨a', xs, e, f0, h1, d⟩ := x
    have h : o = some (V.ref a) := h
    rw [e] at h
    cases h
    exact ⟨f0, by rw [h1]; simp⟩
  | _ => exact (show False from h).elim
theorem SlOk.move {K : PySem.W.Frag} {c : Cq K} {F H F' H' : Hp} {s : Sl} {o : Option V} (x : SlOk c F H s o) (ef : Ex F F') (hn : ∀ a, s.Owns o a → F' a = none ∧ H' a = H a) : SlOk c F' H' s o := by
  cases s with
  | no => trivial
  | val b d => obtain ⟨v, e, d⟩ := x; exact ⟨v, e, d.ex ef⟩
  | own b ds =>
    obtain ⟨a, xs, e, f0, h, d⟩ := x
    obtain ⟨q1, q2⟩ := hn a e
    exact ⟨a, xs, e, q1, by rw [q2]; exact h, d.ex ef⟩
  | raw v => exact x
  | exc cls => obtain ⟨a, e, h⟩ := x; exact ⟨a, e, ef _ _ h⟩
  | res v R => exact ⟨x.1, fun a h => ⟨(hn a h).1, by rw [(hn a h).2]; exact (x.2.1 a h).2⟩, R.stay F H F' H' x.2.2 ef fun a h => (hn a h).2⟩
  | dic b kd =>
    obtain ⟨a, xs, e, f0, h, d1, d2⟩ := x
    obtain ⟨q1, q2⟩ := hn a e
    exact ⟨a, xs, e, q1, by rw [q2]; exact h, d1, d2.ex ef⟩
  | tab b ds =>
    obtain ⟨a, xs, e, f0, h, d, rr⟩ := x
    obtain ⟨q1, q2⟩ := hn a e
    exact ⟨a, xs, e, q1, by rw [q2]; exact h, d.ex ef, rr.ex ef⟩
structure Sim {K : PySem.W.Frag} (c : Cq K) (O : Addr → Prop) (ρ : Rho) (σ : St) (F H : Hp) : Prop where
  base : Ex c.H0 F
  ff : Ex F H
  prot : ∀ a, O a → F a = none ∧ H a ≠ none
  len : σ.length = ρ.length
  sl : ∀ (i : Nat) (s : Sl) (o : Option V), ρ[i]? = some s → σ[i]? = some o → SlOk c F H s o
  apart : ∀ (i j : Nat) (s t : Sl) (o o' : Option V) (a : Addr), ρ[i]? = some s → ρ[j]? = some t → σ[i]? = some o → σ[j]? = some o' → s.Owns o a → t.Owns o' a → i = j
section
variable {K : PySem.W.Frag} {c : Cq K} {O : Addr → Prop} {ρ ρ' : Rho} {σ : St} {F H F' H' : Hp}
theorem Sim.bb (S : Sim c O ρ σ F H) : Ex c.H0 H := S.base.trans S.ff
theorem Sim.get (S : Sim c O ρ σ F H) {i : Nat} {s : Sl} (h : ρ[i]? = some s) : ∃ o, σ[i]? = some o ∧ SlOk c F H s o := by
  have q : i < σ.length := by rw [S.len]; exact (List.getElem?_eq_some_iff.mp h).1
  exact ⟨σ[i], by simp [q], S.sl i s _ h (by simp [q])⟩
/-- the heaps grow, all owned lists stay -/
theorem SlOk.grow {s : Sl} {o : Option V} (x : SlOk c F H s o) (ef : Ex F F') (eh : Ex H H') (hn : ∀ a, H a ≠ none → F a = none → F' a = none) : SlOk c F' H' s o := x.move ef fun a h => by
  obtain ⟨q1, q2⟩ := x.owned h
  refine ⟨hn a q2 q1, ?_⟩
  cases e : H a with
  | none => exact absurd e q2
  | some u => exact eh a u e
theorem Sim.grow (S : Sim c O ρ σ F H) (ef : Ex F F') (eh : Ex H H') (hn : ∀ a, H a ≠ none → F a = none → F' a = none) (f2 : Ex F' H') : Sim c O ρ σ F' H' :=
  ⟨S.base.trans ef, f2, fun a h => ⟨hn a (S.prot a h).2 (S.prot a h).1, fun z => (S.prot a h).2 (Evl.fresh_back eh z)⟩, S.len, fun i s o h1 h2 => (S.sl i s o h1 h2).grow ef eh hn, S.apart⟩
open Classical in
/-- all that is new in H' is made part of F -/
noncomputable def addF (F H H' : Hp) : Hp := fun a => if H a = none then H' a else F a
theorem addF_ex (ff : Ex F H) : Ex F (addF F H H') := fun a o e => by
  unfold addF
  rw [if_neg (by rw [ff a o e]; simp)]
  exact e
theorem addF_sub (ff : Ex F H) (eh : Ex H H') : Ex (addF F H H') H' := fun a o e => by
  unfold addF at e
  split at e
  · exact e
  · exact eh a o (ff a o e)
theorem addF_new {a : Addr} (h : H a = none) : addF F H H' a = H' a := by unfold addF; rw [if_pos h]
theorem addF_old {a : Addr} (h : H a ≠ none) : addF F H H' a = F a := by unfold addF; rw [if_neg h]
theorem Sim.add (S : Sim c O ρ σ F H) (eh : Ex H H') : Sim c O ρ σ (addF F H H') H' :=
  S.grow (addF_ex S.ff) eh (fun a h f => by rw [addF_old h]; exact f) (addF_sub S.ff eh)
theorem rd_add {a : Addr} {u : HO} (h : H a = none) (r : Rd H' a u) : Rd (addF F H H') a u := by
  rcases r with r | ⟨o, r⟩
  · exact .inl (by rw [addF_new h]; exact r)
  · exact .inr ⟨o, by rw [addF_new h]; exact r⟩
/-- data made of new objects alone is frozen data -/
theorem Dd.add {v : V} {d : PyData} (x : Dd (only fun a => H a = none) H' v d) (S : Sim c O ρ σ F H) (b : Bool) : Dd (c.pw b) (addF F H H') v d :=
  x.mono (fun a u p r => ⟨Cq.any (by
    cases q : c.H0 a with
    | none => rfl
    | some o => have p' : H a = none := p; rw [S.bb a o q] at p'; cases p'), by rw [addF_new p]; exact r⟩) fun _ _ (h : False) => h.elim
theorem DdAll.add {v : List V} {d : List PyData} (x : DdAll (only fun a => H a = none) H' v d) (S : Sim c O ρ σ F H) (b : Bool) : DdAll (c.pw b) (addF F H H') v d :=
  x.mono (fun a u p r => ⟨Cq.any (by
    cases q : c.H0 a with
    | none => rfl
    | some o => have p' : H a = none := p; rw [S.bb a o q] at p'; cases p'), by rw [addF_new p]; exact r⟩) fun _ _ (h : False) => h.elim
end

/-! ### what evaluates to what -/
def Ev {K : PySem.W.Frag} (c : Cq K) (b : Bool) (te : TE) (ρ : Rho) (d : PyData) : Prop := ∀ (O : Addr → Prop) (σ : St) (F H : Hp), Sim c O ρ σ F H → ∀ Q : VK, (∀ v F' H', Ex F F' → Ex H H' → Sim c O ρ σ F' H' → Dd (c.pw b) F' v d → Q v H') → te σ H Q
def EvR {K : PySem.W.Frag} (c : Cq K) (te : TE) (ρ : Rho) (d : PyData) : Prop := ∀ (O : Addr → Prop) (σ : St) (F H : Hp), Sim c O ρ σ F H → ∀ Q : VK, (∀ v F' H', Ex F F' → Ex H H' → Sim c O ρ σ F' H' → Dd (T1 K) H' v d → Q v H') → te σ H Q
def EvL {K : PySem.W.Frag} (c : Cq K) (b : Bool) (te : TE) (ρ : Rho) (ds : List PyData) : Prop := ∀ (O : Addr → Prop) (σ : St) (F H : Hp), Sim c O ρ σ F H → ∀ Q : VK,
  (∀ p xs F' H', Ex F F' → Ex H H' → Sim c O ρ σ F' H' → H p = none → F' p = none → H' p = some (.lst xs) → NotOwn ρ σ p → DdAll (c.pw b) F' xs ds → Q (.ref p) H') → te σ H Q
def EvB {K : PySem.W.Frag} (c : Cq K) (tt : TT) (ρ : Rho) (b : Bool) : Prop := ∀ (O : Addr → Prop) (σ : St) (F H : Hp), Sim c O ρ σ F H → ∀ Q : Bool → Hp → Prop, (∀ F' H', Ex F F' → Ex H H' → Sim c O ρ σ F' H' → Q b H') → tt σ H Q
def EvA {K : PySem.W.Frag} (c : Cq K) (ta : TA) (ρ : Rho) (ds : List PyData) : Prop := ∀ (O : Addr → Prop) (σ : St) (F H : Hp), Sim c O ρ σ F H → ∀ Q : List V → Hp → Prop, (∀ vs F' H', Ex F F' → Ex H H' → Sim c O ρ σ F' H' → DdAll (T1 K) H' vs ds → Q vs H') → ta σ H Q
def EvAF {K : PySem.W.Frag} (c : Cq K) (b : Bool) (ta : TA) (ρ : Rho) (ds : List PyData) : Prop := ∀ (O : Addr → Prop) (σ : St) (F H : Hp), Sim c O ρ σ F H → ∀ Q : List V → Hp → Prop, (∀ vs F' H', Ex F F' → Ex H H' → Sim c O ρ σ F' H' → DdAll (c.pw b) F' vs ds → Q vs H') → ta σ H Q
def EvO {K : PySem.W.Frag} (c : Cq K) (to : TO) (ρ : Rho) (o : Option Int) : Prop := ∀ (O : Addr → Prop) (σ : St) (F H : Hp), Sim c O ρ σ F H → ∀ Q : Option Int → Hp → Prop, (∀ F' H', Ex F F' → Ex H H' → Sim c O ρ σ F' H' → Q o H') → to σ H Q
/-- plain values: they need no heap -/
inductive Sca : V → PyData → Prop
  | non : Sca .non .none
  | bl (b : Bool) : Sca (.bl b) (.bool b)
  | int (i : Int) : Sca (.int i) (.int i)
  | str (x : Str) : Sca (.str x) (.str x)
theorem Sca.dd {m : Mode} {H : Hp} {v : V} {d : PyData} (h : Sca v d) : Dd m H v d := by cases h <;> constructor
def isSca : PyData → Bool
  | .none => true
  | .bool _ => true
  | .int _ => true
  | .str _ => true
  | _ => false
theorem Dd.sca {m m' : Mode} {H H' : Hp} {v : V} {d : PyData} (h : Dd m H v d) (s : isSca d = true) : Dd m' H' v d := by
  cases h with
  | lst => cases s
  | tup => cases s
  | dic => cases s
  | dis => cases s
  | ins => cases s
  | non => exact .non
  | bl b => exact .bl b
  | int i => exact .int i
  | str x => exact .str x
section
variable {K : PySem.W.Frag} {c : Cq K} {b b' : Bool} {te ta tb tx : TE} {tt tu : TT} {ρ : Rho} {d : PyData} {i j : Int}
theorem Ev.is {e : PyData} (h : Ev c b te ρ d) (q : d = e) : Ev c b te ρ e := q ▸ h
theorem EvL.is {ds es : List PyData} (h : EvL c b te ρ ds) (q : ds = es) : EvL c b te ρ es := q ▸ h
theorem EvB.is {x y : Bool} (h : EvB c tt ρ x) (q : x = y) : EvB c tt ρ y := q ▸ h
theorem Ev.r (h : Ev c b te ρ d) : EvR c te ρ d := fun O σ F H S Q k => h O σ F H S Q fun v F' H' e1 e2 S' dd => k v F' H' e1 e2 S' (dd.all Cq.kl S'.ff)
theorem Ev.weak (h : Ev c true te ρ d) : Ev c false te ρ d := fun O σ F H S Q k => h O σ F H S Q fun v F' H' e1 e2 S' dd => k v F' H' e1 e2 S' (dd.up Cq.more (Evl.Ex.refl _))
theorem EvR.sca (h : EvR c te ρ d) (s : isSca d = true) : Ev c b te ρ d := fun O σ F H S Q k => h O σ F H S Q fun v F' H' e1 e2 S' dd => k v F' H' e1 e2 S' (dd.sca s)
/-- a new list, frozen -/
theorem EvL.ev {ds : List PyData} (h : EvL c b te ρ ds) : Ev c b te ρ (.list ds) := fun O σ F H S Q k => h O σ F H S Q fun p xs F' H' e1 e2 S' hp fp h1 ow dd => by
  have n0 : c.H0 p = none := by
    cases q : c.H0 p with
    | none => rfl
    | some o => rw [S.bb p o q] at hp; cases hp
  have ef : Ex F' (upd F' p (.lst xs)) := Evl.Ex.new fp
  have ff : Ex (upd F' p (.lst xs)) H' := fun a o e => by
    by_cases z : a = p
    · subst z; rw [upd_same] at e; cases e; exact h1
    · rw [upd_ne z] at e; exact S'.ff a o e
  refine k _ (upd F' p (.lst xs)) H' (e1.trans ef) e2 ⟨S'.base.trans ef, ff, fun a h => ⟨by rw [upd_ne (fun z => (S.prot a h).2 (by rw [z]; exact hp))]; exact (S'.prot a h).1, (S'.prot a h).2⟩, S'.len, fun i s o hi ho => ?_, S'.apart⟩ (.lst (.inl ⟨Cq.any n0, .inl upd_same⟩) (dd.ex ef))
  exact (S'.sl i s o hi ho).move ef fun a ha => ⟨by rw [upd_ne (fun z => ow i s o hi ho (by rw [← z]; exact ha))]; exact ((S'.sl i s o hi ho).owned ha).1, rfl⟩
theorem EvL.weak {ds : List PyData} (h : EvL c true te ρ ds) : EvL c false te ρ ds := fun O σ F H S Q k => h O σ F H S Q fun p xs F' H' e1 e2 S' hp fp h1 ow dd => k p xs F' H' e1 e2 S' hp fp h1 ow (dd.up Cq.more (Evl.Ex.refl _))

/-! names and constants -/
theorem ev_var {k : Nat} (h : ρ[k]? = some (.val b d)) : Ev c b (tVar k) ρ d := fun O σ F H S Q q => by
  obtain ⟨o, ho, v, e, dd⟩ := S.get h
  exact ⟨v, by rw [ho, e], q v F H (Evl.Ex.refl _) (Evl.Ex.refl _) S dd⟩
theorem ev_varW {k : Nat} (h : ρ[k]? = some (.val true d)) : Ev c false (tVar k) ρ d := (ev_var h).weak
theorem ev_varS {k : Nat} (h : ρ[k]? = some (.val b' d)) (s : isSca d = true) : Ev c b (tVar k) ρ d := ((ev_var h).r).sca s
theorem er_var {k : Nat} (h : ρ[k]? = some (.val b d)) : EvR c (tVar k) ρ d := (ev_var h).r
theorem er_own {k : Nat} {ds : List PyData} (h : ρ[k]? = some (.own b ds)) : EvR c (tVar k) ρ (.list ds) := fun O σ F H S Q q => by
  obtain ⟨o, ho, a, xs, e, f0, h1, dd⟩ := S.get h
  exact ⟨_, by rw [ho, e], q _ F H (Evl.Ex.refl _) (Evl.Ex.refl _) S (.lst (.inl ⟨trivial, .inl h1⟩) (dd.up ⟨fun _ _ => trivial, Cq.kl⟩ S.ff))⟩
theorem ev_int : Ev c b (tC (.int i)) ρ (.int i) := fun O σ F H S Q q => q _ F H (Evl.Ex.refl _) (Evl.Ex.refl _) S (.int i)
theorem ev_bl {x : Bool} : Ev c b (tC (.bl x)) ρ (.bool x) := fun O σ F H S Q q => q _ F H (Evl.Ex.refl _) (Evl.Ex.refl _) S (.bl x)
theorem ev_str {x : Str} : Ev c b (tC (.str x)) ρ (.str x) := fun O σ F H S Q q => q _ F H (Evl.Ex.refl _) (Evl.Ex.refl _) S (.str x)
theorem ev_non : Ev c b (tC .non) ρ .none := fun O σ F H S Q q => q _ F H (Evl.Ex.refl _) (Evl.Ex.refl _) S .non

/-! two ints -/
theorem ev_op0 {g : Int → Int → V} {e : PyData} (ha : EvR c ta ρ (.int i)) (hb : EvR c tb ρ (.int j)) (hd : Sca (g i j) e) : Ev c b (tOp (rI0 g) ta tb) ρ e := fun O σ F H S Q k => by
  refine ha O σ F H S _ fun v F1 H1 e1 h1 S1 d1 => hb O σ F1 H1 S1 _ fun w F2 H2 e2 h2 S2 d2 => ?_
  cases d1; cases d2
  exact ⟨i, j, rfl, rfl, k _ F2 H2 (e1.trans e2) (h1.trans h2) S2 hd.dd⟩
theorem ev_opI {C : Int → Int → Prop} {g : Int → Int → V} {e : PyData} (ha : EvR c ta ρ (.int i)) (hb : EvR c tb ρ (.int j)) (hc : C i j) (hd : Sca (g i j) e) : Ev c b (tOp (rI C g) ta tb) ρ e := fun O σ F H S Q k => by
  refine ha O σ F H S _ fun v F1 H1 e1 h1 S1 d1 => hb O σ F1 H1 S1 _ fun w F2 H2 e2 h2 S2 d2 => ?_
  cases d1; cases d2
  exact ⟨i, j, rfl, rfl, hc, k _ F2 H2 (e1.trans e2) (h1.trans h2) S2 hd.dd⟩
theorem ev_un {g : Int → V} {e : PyData} (ha : EvR c ta ρ (.int i)) (hd : Sca (g i) e) : Ev c b (tUn (rU g) ta) ρ e := fun O σ F H S Q k => by
  refine ha O σ F H S _ fun v F1 H1 e1 h1 S1 d1 => ?_
  cases d1
  exact ⟨i, rfl, k _ F1 H1 e1 h1 S1 hd.dd⟩
/-! == of scalars -/
def eqS : PyData → PyData → Bool
  | .none, .none => true
  | .bool a, .bool b => a == b
  | .int a, .int b => a == b
  | .str a, .str b => a == b
  | _, _ => false
def scalD : PyData → PyData → Bool
  | .none, .int _ => true | .int _, .none => true | .none, .bool _ => true | .bool _, .none => true | .none, .str _ => true | .str _, .none => true
  | .none, .none => true | .int _, .int _ => true | .bool _, .bool _ => true | .str _, .str _ => true
  | .int _, .str _ => true | .str _, .int _ => true | .bool _, .str _ => true | .str _, .bool _ => true
  | _, _ => false
theorem scal_of {m m' : Mode} {H H' : Hp} {x y : V} {d e : PyData} (h1 : Dd m H x d) (h2 : Dd m' H' y e) (s : scalD d e = true) : scal x y = true ∧ decide (x = y) = eqS d e := by
  cases h1 <;> cases h2 <;> first | (cases s; done) | exact ⟨rfl, Bool.eq_iff_iff.mpr (by simp [eqS])⟩
theorem ev_eq {e : PyData} (ha : EvR c ta ρ d) (hb : EvR c tb ρ e) (s : scalD d e = true) : Ev c b (tOp rEq ta tb) ρ (.bool (eqS d e)) := fun O σ F H S Q k => by
  refine ha O σ F H S _ fun v F1 H1 e1 h1 S1 d1 => hb O σ F1 H1 S1 _ fun w F2 H2 e2 h2 S2 d2 => ?_
  have q := scal_of d1 d2 s
  refine ⟨q.1, ?_⟩
  rw [q.2]
  exact k _ F2 H2 (e1.trans e2) (h1.trans h2) S2 (.bl _)
theorem ev_ne {e : PyData} (ha : EvR c ta ρ d) (hb : EvR c tb ρ e) (s : scalD d e = true) : Ev c b (tOp rNe ta tb) ρ (.bool (!eqS d e)) := fun O σ F H S Q k => by
  refine ha O σ F H S _ fun v F1 H1 e1 h1 S1 d1 => hb O σ F1 H1 S1 _ fun w F2 H2 e2 h2 S2 d2 => ?_
  have q := scal_of d1 d2 s
  refine ⟨q.1, ?_⟩
  rw [q.2]
  exact k _ F2 H2 (e1.trans e2) (h1.trans h2) S2 (.bl _)
theorem ev_eqI (ha : EvR c ta ρ (.int i)) (hb : EvR c tb ρ (.int j)) : Ev c b (tOp rEq ta tb) ρ (.bool (decide (i = j))) := (ev_eq ha hb rfl).is (by show PyData.bool (i == j) = _; rw [Bool.beq_eq_decide_eq])
theorem ev_neI (ha : EvR c ta ρ (.int i)) (hb : EvR c tb ρ (.int j)) : Ev c b (tOp rNe ta tb) ρ (.bool (!decide (i = j))) := (ev_ne ha hb rfl).is (by show PyData.bool (!(i == j)) = _; rw [Bool.beq_eq_decide_eq])
/-! deep == -/
theorem ev_eqD {e : PyData} (ha : EvR c ta ρ d) (hb : EvR c tb ρ e) (s1 : SeqAt.shaped d = true) (s2 : SeqAt.shaped e = true) : Ev c b (tOp (rEqD K) ta tb) ρ (.bool (PyData.eqv d e)) := fun O σ F H S Q k =>
  ha O σ F H S _ fun v F1 H1 e1 h1 S1 d1 => hb O σ F1 H1 S1 _ fun w F2 H2 e2 h2 S2 d2 => ⟨d, e, (d1.ex h2).dp (fun _ _ h => h) (SeqAt.canLay_of_shaped s1), d2.dp (fun _ _ h => h) (SeqAt.canLay_of_shaped s2), s1, s2, k _ F2 H2 (e1.trans e2) (h1.trans h2) S2 (.bl _)⟩
theorem ev_neD {e : PyData} (ha : EvR c ta ρ d) (hb : EvR c tb ρ e) (s1 : SeqAt.shaped d = true) (s2 : SeqAt.shaped e = true) : Ev c b (tOp (rNeD K) ta tb) ρ (.bool (!PyData.eqv d e)) := fun O σ F H S Q k =>
  ha O σ F H S _ fun v F1 H1 e1 h1 S1 d1 => hb O σ F1 H1 S1 _ fun w F2 H2 e2 h2 S2 d2 => ⟨d, e, (d1.ex h2).dp (fun _ _ h => h) (SeqAt.canLay_of_shaped s1), d2.dp (fun _ _ h => h) (SeqAt.canLay_of_shaped s2), s1, s2, k _ F2 H2 (e1.trans e2) (h1.trans h2) S2 (.bl _)⟩
theorem ev_inD {ds : List PyData} (ha : EvR c ta ρ d) (hb : EvR c tb ρ (.list ds)) (s1 : SeqAt.shaped d = true) (s2 : SeqAt.shaped (.list ds) = true) : Ev c b (tOp (rInD K) ta tb) ρ (.bool (ds.any fun z => PyData.eqv z d)) := fun O σ F H S Q k =>
  ha O σ F H S _ fun v F1 H1 e1 h1 S1 d1 => hb O σ F1 H1 S1 _ fun w F2 H2 e2 h2 S2 d2 => ⟨d, ds, (d1.ex h2).dp (fun _ _ h => h) (SeqAt.canLay_of_shaped s1), d2.dp (fun _ _ h => h) (SeqAt.canLay_of_shaped s2), s1, s2, k _ F2 H2 (e1.trans e2) (h1.trans h2) S2 (.bl _)⟩
theorem ev_niD {ds : List PyData} (ha : EvR c ta ρ d) (hb : EvR c tb ρ (.list ds)) (s1 : SeqAt.shaped d = true) (s2 : SeqAt.shaped (.list ds) = true) : Ev c b (tOp (rNotInD K) ta tb) ρ (.bool (!ds.any fun z => PyData.eqv z d)) := fun O σ F H S Q k =>
  ha O σ F H S _ fun v F1 H1 e1 h1 S1 d1 => hb O σ F1 H1 S1 _ fun w F2 H2 e2 h2 S2 d2 => ⟨d, ds, (d1.ex h2).dp (fun _ _ h => h) (SeqAt.canLay_of_shaped s1), d2.dp (fun _ _ h => h) (SeqAt.canLay_of_shaped s2), s1, s2, k _ F2 H2 (e1.trans e2) (h1.trans h2) S2 (.bl _)⟩
/-! tests -/
theorem eb_test {x : Bool} (h : EvR c te ρ (.bool x)) : EvB c (tTest te) ρ x := fun O σ F H S Q k => h O σ F H S _ fun v F1 H1 e1 h1 S1 d1 => by
  cases d1
  exact ⟨x, rfl, k F1 H1 e1 h1 S1⟩
theorem eb_B {x : Bool} (h : EvR c te ρ (.bool x)) : EvB c (tB te) ρ x := fun O σ F H S Q k => h O σ F H S _ fun v F1 H1 e1 h1 S1 d1 => by
  cases d1
  exact ⟨x, rfl, k F1 H1 e1 h1 S1⟩
theorem eb_not {x : Bool} (h : EvB c tt ρ x) : EvB c (tNot tt) ρ (!x) := fun O σ F H S Q k => h O σ F H S _ fun F1 H1 e1 h1 S1 => k F1 H1 e1 h1 S1
theorem eb_and {x y : Bool} (h : EvB c tt ρ x) (h2 : x = true → EvB c tu ρ y) : EvB c (tAnd tt tu) ρ (x && y) := fun O σ F H S Q k => h O σ F H S _ fun F1 H1 e1 h1 S1 => by
  cases x with
  | true => exact iteT (h2 rfl O σ F1 H1 S1 Q fun F2 H2 e2 h2 S2 => k F2 H2 (e1.trans e2) (h1.trans h2) S2)
  | false => exact iteF (k F1 H1 e1 h1 S1)
theorem eb_or {x y : Bool} (h : EvB c tt ρ x) (h2 : x = false → EvB c tu ρ y) : EvB c (tOr tt tu) ρ (x || y) := fun O σ F H S Q k => h O σ F H S _ fun F1 H1 e1 h1 S1 => by
  cases x with
  | true => exact iteT (k F1 H1 e1 h1 S1)
  | false => exact iteF (h2 rfl O σ F1 H1 S1 Q fun F2 H2 e2 h2 S2 => k F2 H2 (e1.trans e2) (h1.trans h2) S2)
theorem ev_andV {x y : Bool} (h : EvR c ta ρ (.bool x)) (h2 : x = true → EvR c tb ρ (.bool y)) : Ev c b (tAndV ta tb) ρ (.bool (x && y)) := fun O σ F H S Q k => h O σ F H S _ fun v F1 H1 e1 h1 S1 d1 => by
  cases d1
  refine ⟨x, rfl, ?_⟩
  cases x with
  | true => exact iteT (h2 rfl O σ F1 H1 S1 Q fun w F2 H2 e2 h2 S2 d2 => k w F2 H2 (e1.trans e2) (h1.trans h2) S2 (d2.sca rfl))
  | false => exact iteF (k _ F1 H1 e1 h1 S1 (.bl _))
theorem ev_orV {x y : Bool} (h : EvR c ta ρ (.bool x)) (h2 : x = false → EvR c tb ρ (.bool y)) : Ev c b (tOrV ta tb) ρ (.bool (x || y)) := fun O σ F H S Q k => h O σ F H S _ fun v F1 H1 e1 h1 S1 d1 => by
  cases d1
  refine ⟨x, rfl, ?_⟩
  cases x with
  | true => exact iteT (k _ F1 H1 e1 h1 S1 (.bl _))
  | false => exact iteF (h2 rfl O σ F1 H1 S1 Q fun w F2 H2 e2 h2 S2 d2 => k w F2 H2 (e1.trans e2) (h1.trans h2) S2 (d2.sca rfl))
theorem ev_notV {x : Bool} (h : EvR c ta ρ (.bool x)) : Ev c b (tNotV ta) ρ (.bool (!x)) := fun O σ F H S Q k => h O σ F H S _ fun v F1 H1 e1 h1 S1 d1 => by
  cases d1
  exact ⟨x, rfl, k _ F1 H1 e1 h1 S1 (.bl _)⟩
theorem ev_if {x : Bool} (h : EvB c tt ρ x) (h1 : x = true → Ev c b ta ρ d) (h2 : x = false → Ev c b tb ρ d) : Ev c b (tIf tt ta tb) ρ d := fun O σ F H S Q k => h O σ F H S _ fun F1 H1 e1 g1 S1 => by
  cases x with
  | true => exact iteT (h1 rfl O σ F1 H1 S1 Q fun w F2 H2 e2 h2 S2 d2 => k w F2 H2 (e1.trans e2) (g1.trans h2) S2 d2)
  | false => exact iteF (h2 rfl O σ F1 H1 S1 Q fun w F2 H2 e2 h2 S2 d2 => k w F2 H2 (e1.trans e2) (g1.trans h2) S2 d2)
/-! arguments, displays -/
theorem ea_nil : EvA c tNil ρ [] := fun O σ F H S Q k => k _ F H (Evl.Ex.refl _) (Evl.Ex.refl _) S .nil
theorem ea_cons {tr : TA} {ds : List PyData} (h : EvR c te ρ d) (hr : EvA c tr ρ ds) : EvA c (tCons te tr) ρ (d :: ds) := fun O σ F H S Q k =>
  h O σ F H S _ fun v F1 H1 e1 h1 S1 d1 => hr O σ F1 H1 S1 _ fun vs F2 H2 e2 h2 S2 d2 => k _ F2 H2 (e1.trans e2) (h1.trans h2) S2 (.cons (d1.ex h2) d2)
theorem ef_nil : EvAF c b tNil ρ [] := fun O σ F H S Q k => k _ F H (Evl.Ex.refl _) (Evl.Ex.refl _) S .nil
theorem ef_cons {tr : TA} {ds : List PyData} (h : Ev c b te ρ d) (hr : EvAF c b tr ρ ds) : EvAF c b (tCons te tr) ρ (d :: ds) := fun O σ F H S Q k =>
  h O σ F H S _ fun v F1 H1 e1 h1 S1 d1 => hr O σ F1 H1 S1 _ fun vs F2 H2 e2 h2 S2 d2 => k _ F2 H2 (e1.trans e2) (h1.trans h2) S2 (.cons (d1.ex e2) d2)
/-- from a new object at p -/
theorem Sim.lay {O : Addr → Prop} {σ : St} {F H : Hp} {p : Addr} {o : HO} (S : Sim c O ρ σ F H) (hp : H p = none) : Sim c O ρ σ F (upd H p o) := S.grow (Evl.Ex.refl _) (Evl.Ex.new hp) (fun _ _ f => f) (S.ff.trans (Evl.Ex.new hp))
theorem Sim.notOwn {O : Addr → Prop} {σ : St} {F H : Hp} {p : Addr} (S : Sim c O ρ σ F H) (hp : H p = none) : NotOwn ρ σ p := fun i s o h1 h2 h3 => ((S.sl i s o h1 h2).owned h3).2 hp
theorem Sim.fresh {O : Addr → Prop} {σ : St} {F H : Hp} {p : Addr} (S : Sim c O ρ σ F H) (hp : H p = none) : F p = none := Evl.fresh_back S.ff hp
theorem el_lst {t : TA} {ds : List PyData} (h : EvAF c b t ρ ds) (hl : ds.length ≤ 100000) : EvL c b (tLst t) ρ ds := fun O σ F H S Q k => h O σ F H S _ fun vs F1 H1 e1 h1 S1 d1 =>
  ⟨Evl.sz_of (by rw [d1.length]; exact hl), fun p hp => k p vs F1 _ e1 (h1.trans (Evl.Ex.new hp)) (S1.lay hp) (Evl.fresh_back h1 hp) (S1.fresh hp) upd_same (S1.notOwn hp) d1⟩
theorem ev_tup {t : TA} {ds : List PyData} (h : EvAF c b t ρ ds) (hl : ds.length ≤ 100000) : Ev c b (tTup t) ρ (.tuple ds) := fun O σ F H S Q k => h O σ F H S _ fun vs F1 H1 e1 h1 S1 d1 =>
  ⟨Evl.sz_of (by rw [d1.length]; exact hl), fun p hp => by
    have e2 : Ex H1 (upd H1 p (.tup vs)) := Evl.Ex.new hp
    have n0 : c.H0 p = none := Evl.fresh_back S1.bb hp
    refine k _ (addF F1 H1 (upd H1 p (.tup vs))) _ (e1.trans (addF_ex S1.ff)) (h1.trans e2) (S1.add e2) (.tup (Cq.any n0) (.inl (by rw [addF_new hp]; exact upd_same)) (d1.ex (addF_ex S1.ff)))⟩
end
end DL

end
section
set_option maxRecDepth 100000
set_option maxHeartbeats 2000000
namespace DL
open PySem L2
/-! ### a list to be read whose items are frozen data -/
def EvE {K : PySem.W.Frag} (c : Cq K) (b : Bool) (te : TE) (ρ : Rho) (ds : List PyData) : Prop := ∀ (O : Addr → Prop) (σ : St) (F H : Hp), Sim c O ρ σ F H → ∀ Q : VK,
  (∀ a xs F' H', Ex F F' → Ex H H' → Sim c O ρ σ F' H' → SqL K H' a xs → DdAll (c.pw b) F' xs ds → Q (.ref a) H') → te σ H Q
theorem dd_sq {K : PySem.W.Frag} {m : Mode} {F H : Hp} {a : Addr} {xs : List V} (hl : ∀ a xs, m.L a xs → KL K a xs) (e : Ex F H) (r : (m.P a ∧ Rd F a (.lst xs)) ∨ m.L a xs) : SqL K H a xs := r.elim (fun r => .inl (Evl.ex_rd e r.2)) fun r => .inr (hl _ _ r)
theorem sq_ex {K : PySem.W.Frag} {H H' : Hp} {a : Addr} {xs : List V} (e : Ex H H') (h : SqL K H a xs) : SqL K H' a xs := Evl.ex_l e h
theorem sq_dd {K : PySem.W.Frag} {H : Hp} {a : Addr} {xs : List V} (h : SqL K H a xs) : ((T1 K).P a ∧ Rd H a (.lst xs)) ∨ (T1 K).L a xs := h.elim (fun r => .inl ⟨trivial, r⟩) .inr
theorem rd_ex {H H' : Hp} {a : Addr} {u : HO} (e : Ex H H') (h : Rd H a u) : Rd H' a u := Evl.ex_rd e h
/-! places and slices of any lists -/
def cutL {α : Type} (xs : List α) (lo hi : Option Int) : List α := (xs.drop (HT.sIx xs.length 0 lo)).take (HT.sIx xs.length xs.length hi - HT.sIx xs.length 0 lo)
theorem cutL_map {α β : Type} (f : α → β) (xs : List α) (lo hi : Option Int) : cutL (xs.map f) lo hi = (cutL xs lo hi).map f := by
  unfold cutL
  rw [List.length_map, List.map_take, List.map_drop]
theorem cutL_to {α : Type} (xs : List α) (k : Nat) : cutL xs none (some (k : Int)) = xs.take k := by
  unfold cutL
  rw [HT.sIx_none, HT.sIx_nat, List.drop_zero, Nat.sub_zero, ← List.take_eq_take_min]
theorem cutL_from {α : Type} (xs : List α) (k : Nat) : cutL xs (some (k : Int)) none = xs.drop k := by
  unfold cutL
  rw [HT.sIx_none, HT.sIx_nat]
  by_cases h : k ≤ xs.length
  · rw [Nat.min_eq_left h, List.take_of_length_le (by rw [List.length_drop]; omega)]
  · rw [Nat.min_eq_right (by omega), Nat.sub_self, List.take_zero, List.drop_eq_nil_of_le (by omega)]
theorem cutL_mid {α : Type} (xs : List α) (j k : Nat) : cutL xs (some (j : Int)) (some (k : Int)) = (xs.drop j).take (k - j) := by
  unfold cutL
  rw [HT.sIx_nat, HT.sIx_nat]
  by_cases h : j ≤ xs.length
  · rw [Nat.min_eq_left h]
    by_cases h2 : k ≤ xs.length
    · rw [Nat.min_eq_left h2]
    · rw [Nat.min_eq_right (by omega), List.take_of_length_le (by rw [List.length_drop]; omega), List.take_of_length_le (by rw [List.length_drop]; omega)]
  · rw [Nat.min_eq_right (show xs.length ≤ j by omega), List.drop_eq_nil_of_le (Nat.le_refl _), List.drop_eq_nil_of_le (show xs.length ≤ j by omega)]
    simp
theorem cutL_all {α : Type} (xs : List α) : cutL xs none none = xs := by
  unfold cutL
  rw [HT.sIx_none, HT.sIx_none]
  simp
theorem DdAll.cut {m : Mode} {H : Hp} {vs : List V} {ds : List PyData} (h : DdAll m H vs ds) (lo hi : Option Int) : DdAll m H (cutV vs lo hi) (cutL ds lo hi) := by
  unfold cutV cutL
  rw [h.length]
  exact (h.drop _).take _
theorem DdAll.at {m : Mode} {H : Hp} {vs : List V} {ds : List PyData} {i : Int} {d : PyData} (h : DdAll m H vs ds) (e : atI ds i = some d) : ∃ v, atI vs i = some v ∧ Dd m H v d := by
  unfold atI at *
  rw [h.length]
  cases q : ixN ds.length i with
  | none => rw [q] at e; cases e
  | some j =>
    rw [q] at e
    obtain ⟨v, a, b⟩ := h.get (i := j) e
    exact ⟨v, a, b⟩
theorem atI_map {α β : Type} (f : α → β) (xs : List α) (i : Int) : atI (xs.map f) i = (atI xs i).map f := by
  unfold atI
  rw [List.length_map]
  cases ixN xs.length i with
  | none => rfl
  | some j => show (xs.map f)[j]? = (xs[j]?).map f; rw [List.getElem?_map]
theorem atI_mapS {α β : Type} {f : α → β} {xs : List α} {i : Int} {x : α} (h : atI xs i = some x) : atI (xs.map f) i = some (f x) := by rw [atI_map, h]; rfl
theorem atI_natI {α : Type} {xs : List α} {i : Int} {v : α} (h0 : 0 ≤ i) (h : xs[i.toNat]? = some v) : atI xs i = some v := by
  have e : i = (i.toNat : Int) := by omega
  rw [e]
  exact atI_nat h
theorem atI_zero {α : Type} {xs : List α} {x : α} : atI (x :: xs) 0 = some x := atI_nat (j := 0) rfl
theorem atI_one {α : Type} {xs : List α} {x y : α} : atI (x :: y :: xs) 1 = some y := atI_nat (j := 1) rfl
theorem atI_two {α : Type} {xs : List α} {x y z : α} : atI (x :: y :: z :: xs) 2 = some z := atI_nat (j := 2) rfl
theorem atI_back {α : Type} {xs : List α} {v : α} (h : xs.getLast? = some v) : atI xs (-1) = some v := by
  obtain ⟨ys, rfl⟩ := List.getLast?_eq_some_iff.mp h
  exact atI_last ys v
section
variable {K : PySem.W.Frag} {c : Cq K} {b b' : Bool} {te ta tb tx : TE} {tt tu : TT} {ρ : Rho} {d : PyData} {ds es : List PyData} {i j : Int}
theorem EvE.is (h : EvE c b te ρ ds) (q : ds = es) : EvE c b te ρ es := q ▸ h
theorem Ev.e (h : Ev c b te ρ (.list ds)) : EvE c b te ρ ds := fun O σ F H S Q k => h O σ F H S Q fun v F' H' e1 e2 S' dd => by
  cases dd with
  | lst r q => exact k _ _ F' H' e1 e2 S' (dd_sq Cq.kl S'.ff r) q
theorem EvL.e (h : EvL c b te ρ ds) : EvE c b te ρ ds := h.ev.e
theorem ee_own {k : Nat} (h : ρ[k]? = some (.own b ds)) : EvE c b (tVar k) ρ ds := fun O σ F H S Q q => by
  obtain ⟨o, ho, a, xs, e, f0, h1, dd⟩ := S.get h
  exact ⟨_, by rw [ho, e], q _ xs F H (Evl.Ex.refl _) (Evl.Ex.refl _) S (.inl (.inl h1)) dd⟩
theorem ee_val {k : Nat} (h : ρ[k]? = some (.val b (.list ds))) : EvE c b (tVar k) ρ ds := (ev_var h).e
theorem EvE.weak (h : EvE c true te ρ ds) : EvE c false te ρ ds := fun O σ F H S Q k => h O σ F H S Q fun a xs F' H' e1 e2 S' r dd => k a xs F' H' e1 e2 S' r (dd.up Cq.more (Evl.Ex.refl _))
theorem EvE.r (h : EvE c b te ρ ds) : EvR c te ρ (.list ds) := fun O σ F H S Q k => h O σ F H S Q fun a xs F' H' e1 e2 S' r dd => k _ F' H' e1 e2 S' (.lst (sq_dd r) (dd.up ⟨fun _ _ => trivial, Cq.kl⟩ S'.ff))
/-! index -/
theorem ev_ix (ha : EvE c b ta ρ ds) (hb : EvR c tb ρ (.int i)) (h : atI ds i = some d) : Ev c b (tOp (rIxL K) ta tb) ρ d := fun O σ F H S Q k =>
  ha O σ F H S _ fun a xs F1 H1 e1 h1 S1 r1 d1 => hb O σ F1 H1 S1 _ fun w F2 H2 e2 h2 S2 d2 => by
    cases d2
    obtain ⟨v, q1, q2⟩ := (d1.ex e2).at h
    exact ⟨a, xs, i, v, rfl, rfl, sq_ex h2 r1, q1, k v F2 H2 (e1.trans e2) (h1.trans h2) S2 q2⟩
/-- an int out of a list that is only read -/
theorem ev_ixR (ha : EvR c ta ρ (.list ds)) (hb : EvR c tb ρ (.int i)) (h : atI ds i = some d) : EvR c (tOp (rIxL K) ta tb) ρ d := fun O σ F H S Q k =>
  ha O σ F H S _ fun v F1 H1 e1 h1 S1 d1 => hb O σ F1 H1 S1 _ fun w F2 H2 e2 h2 S2 d2 => by
    cases d2
    cases d1 with
    | lst r q =>
      obtain ⟨v, q1, q2⟩ := (q.ex h2).at h
      exact ⟨_, _, i, v, rfl, rfl, dd_sq (fun _ _ h => h) h2 r, q1, k v F2 H2 (e1.trans e2) (h1.trans h2) S2 q2⟩
theorem ev_ixT (ha : Ev c b ta ρ (.tuple ds)) (hb : EvR c tb ρ (.int i)) (h : atI ds i = some d) : Ev c b (tOp (rIxT K) ta tb) ρ d := fun O σ F H S Q k =>
  ha O σ F H S _ fun v F1 H1 e1 h1 S1 d1 => hb O σ F1 H1 S1 _ fun w F2 H2 e2 h2 S2 d2 => by
    cases d2
    cases d1 with
    | tup p r q =>
      obtain ⟨v, q1, q2⟩ := (q.ex e2).at h
      exact ⟨_, _, i, v, rfl, rfl, .inl (rd_ex (e2.trans S2.ff) r), q1, k v F2 H2 (e1.trans e2) (h1.trans h2) S2 q2⟩
theorem ev_ixS {z : Str} {n : Nat} (ha : EvR c ta ρ (.str z)) (hb : EvR c tb ρ (.int i)) (hl : z.length ≤ 100000) (h : atI z.cps.toList i = some n) : Ev c b (tOp rIxS ta tb) ρ (.str ⟨#[n]⟩) := fun O σ F H S Q k =>
  ha O σ F H S _ fun v F1 H1 e1 h1 S1 d1 => hb O σ F1 H1 S1 _ fun w F2 H2 e2 h2 S2 d2 => by
    cases d2
    cases d1
    exact ⟨z, i, n, rfl, rfl, Evl.sz_of hl, h, k _ F2 H2 (e1.trans e2) (h1.trans h2) S2 (.str _)⟩
/-! slices -/
theorem eo_none : EvO c tNoPart ρ none := fun O σ F H S Q k => k F H (Evl.Ex.refl _) (Evl.Ex.refl _) S
theorem eo_some (h : EvR c te ρ (.int i)) : EvO c (tPart te) ρ (some i) := fun O σ F H S Q k => h O σ F H S _ fun v F1 H1 e1 h1 S1 d1 => by
  cases d1
  exact ⟨i, rfl, k F1 H1 e1 h1 S1⟩
/-- a new list whose items are ds, from its laying -/
theorem lay_list {O : Addr → Prop} {σ : St} {F H F1 H1 : Hp} {xs : List V} {Q : VK} (k : ∀ p xs F' H', Ex F F' → Ex H H' → Sim c O ρ σ F' H' → H p = none → F' p = none → H' p = some (.lst xs) → NotOwn ρ σ p → DdAll (c.pw b) F' xs ds → Q (.ref p) H')
    (e1 : Ex F F1) (h1 : Ex H H1) (S1 : Sim c O ρ σ F1 H1) (d1 : DdAll (c.pw b) F1 xs ds) : ∀ p, H1 p = none → Q (.ref p) (upd H1 p (.lst xs)) := fun p hp =>
  k p xs F1 _ e1 (h1.trans (Evl.Ex.new hp)) (S1.lay hp) (Evl.fresh_back h1 hp) (S1.fresh hp) upd_same (S1.notOwn hp) d1
theorem el_sl {tl th : TO} {lo hi : Option Int} (h : EvE c b te ρ ds) (h1 : EvO c tl ρ lo) (h2 : EvO c th ρ hi) : EvL c b (tSl (rSlL K) te tl th) ρ (cutL ds lo hi) := fun O σ F H S Q k =>
  h O σ F H S _ fun a xs F1 H1 e1 g1 S1 r1 d1 => h1 O σ F1 H1 S1 _ fun F2 H2 e2 g2 S2 => h2 O σ F2 H2 S2 _ fun F3 H3 e3 g3 S3 =>
    ⟨a, xs, rfl, sq_ex (g2.trans g3) r1, lay_list k (e1.trans (e2.trans e3)) (g1.trans (g2.trans g3)) S3 ((d1.ex (e2.trans e3)).cut lo hi)⟩
theorem ev_slS {tl th : TO} {lo hi : Option Int} {z : Str} {f : Str → Option Int → Option Int → Str} (h : EvR c te ρ (.str z)) (h1 : EvO c tl ρ lo) (h2 : EvO c th ρ hi) (hl : z.length ≤ 100000) : Ev c b (tSl (fun x lo hi H Q => ∃ z, x = .str z ∧ z.length ≤ sizeLine ∧ Q (.str (f z lo hi)) H) te tl th) ρ (.str (f z lo hi)) := fun O σ F H S Q k =>
  h O σ F H S _ fun a F1 H1 e1 g1 S1 d1 => h1 O σ F1 H1 S1 _ fun F2 H2 e2 g2 S2 => h2 O σ F2 H2 S2 _ fun F3 H3 e3 g3 S3 => by
    cases d1
    exact ⟨z, rfl, Evl.sz_of hl, k _ F3 H3 (e1.trans (e2.trans e3)) (g1.trans (g2.trans g3)) S3 (.str _)⟩
theorem el_rev (h : EvE c b te ρ ds) : EvL c b (fun σ H Q => te σ H fun x H1 => ∃ a xs, x = V.ref a ∧ SqL K H1 a xs ∧ ∀ p, H1 p = none → Q (.ref p) (upd H1 p (.lst xs.reverse))) ρ ds.reverse := fun O σ F H S Q k =>
  h O σ F H S _ fun a xs F1 H1 e1 g1 S1 r1 d1 => ⟨a, xs, rfl, r1, lay_list k e1 g1 S1 d1.reverse⟩
/-! built-in calls -/
theorem ev_len (h : EvR c te ρ (.list ds)) : Ev c b (tCB (fun xs H Q => ∃ p ys, xs = [V.ref p] ∧ (SqL K H p ys ∨ SqT K H p ys) ∧ Q (.int ys.length) H) (tCons te tNil)) ρ (.int (ds.length : Int)) := fun O σ F H S Q k =>
  h O σ F H S _ fun v F1 H1 e1 h1 S1 d1 => by
    cases d1 with
    | lst r q => exact ⟨_, _, rfl, .inl (dd_sq (fun _ _ h => h) (Evl.Ex.refl _) r), k _ F1 H1 e1 h1 S1 (by rw [q.length]; exact .int _)⟩
theorem ev_lenT (h : EvR c te ρ (.tuple ds)) : Ev c b (tCB (fun xs H Q => ∃ p ys, xs = [V.ref p] ∧ (SqL K H p ys ∨ SqT K H p ys) ∧ Q (.int ys.length) H) (tCons te tNil)) ρ (.int (ds.length : Int)) := fun O σ F H S Q k =>
  h O σ F H S _ fun v F1 H1 e1 h1 S1 d1 => by
    cases d1 with
    | tup p r q => exact ⟨_, _, rfl, .inr (.inl r), k _ F1 H1 e1 h1 S1 (by rw [q.length]; exact .int _)⟩
theorem ev_lenS {z : Str} (h : EvR c te ρ (.str z)) (hl : z.length ≤ 100000) : Ev c b (tCB (fun xs H Q => ∃ z, xs = [V.str z] ∧ z.length ≤ sizeLine ∧ Q (.int z.length) H) (tCons te tNil)) ρ (.int (z.length : Int)) := fun O σ F H S Q k =>
  h O σ F H S _ fun v F1 H1 e1 h1 S1 d1 => by
    cases d1
    exact ⟨z, rfl, Evl.sz_of hl, k _ F1 H1 e1 h1 S1 (.int _)⟩
theorem el_listOf (h : EvE c b te ρ ds) : EvL c b (tCB (fun xs H Q => ∃ p ys, xs = [V.ref p] ∧ (SqL K H p ys ∨ SqT K H p ys) ∧ ∀ l, H l = none → Q (.ref l) (upd H l (.lst ys))) (tCons te tNil)) ρ ds := fun O σ F H S Q k =>
  h O σ F H S _ fun a xs F1 H1 e1 h1 S1 r1 d1 => ⟨a, xs, rfl, .inl r1, lay_list k e1 h1 S1 d1⟩
theorem ev_max2 (ha : EvR c ta ρ (.int i)) (hb : EvR c tb ρ (.int j)) : Ev c b (tCB (fun xs H Q => ∃ i j, xs = [V.int i, .int j] ∧ Q (.int (if j > i then j else i)) H) (tCons ta (tCons tb tNil))) ρ (.int (max i j)) := fun O σ F H S Q k => by
  refine ha O σ F H S _ fun v F1 H1 e1 h1 S1 d1 => hb O σ F1 H1 S1 _ fun w F2 H2 e2 h2 S2 d2 => ?_
  cases d1; cases d2
  refine ⟨i, j, rfl, k _ F2 H2 (e1.trans e2) (h1.trans h2) S2 ?_⟩
  have q : (if j > i then j else i) = max i j := by split <;> omega
  rw [q]
  exact .int _
theorem ev_min2 (ha : EvR c ta ρ (.int i)) (hb : EvR c tb ρ (.int j)) : Ev c b (tCB (fun xs H Q => ∃ i j, xs = [V.int i, .int j] ∧ Q (.int (if j < i then j else i)) H) (tCons ta (tCons tb tNil))) ρ (.int (min i j)) := fun O σ F H S Q k => by
  refine ha O σ F H S _ fun v F1 H1 e1 h1 S1 d1 => hb O σ F1 H1 S1 _ fun w F2 H2 e2 h2 S2 d2 => ?_
  cases d1; cases d2
  refine ⟨i, j, rfl, k _ F2 H2 (e1.trans e2) (h1.trans h2) S2 ?_⟩
  have q : (if j < i then j else i) = min i j := by split <;> omega
  rw [q]
  exact .int _
theorem ev_intB {x : Bool} (ha : EvR c ta ρ (.bool x)) : Ev c b (tCB (fun xs H Q => (∃ i, xs = [V.int i] ∧ Q (.int i) H) ∨ ∃ k, xs = [V.bl k] ∧ Q (.int (if k then 1 else 0)) H) (tCons ta tNil)) ρ (.int (if x then 1 else 0)) := fun O σ F H S Q k => by
  refine ha O σ F H S _ fun v F1 H1 e1 h1 S1 d1 => ?_
  cases d1
  exact .inr ⟨x, rfl, k _ F1 H1 e1 h1 S1 (.int _)⟩
theorem ev_strI (ha : EvR c ta ρ (.int i)) (hl : i.natAbs.log2 < 1920) : Ev c b (tCB (fun xs H Q => ∃ i, xs = [V.int i] ∧ i.natAbs.log2 < 1920 ∧ Q (.str (toString i)) H) (tCons ta tNil)) ρ (.str (toString i)) := fun O σ F H S Q k => by
  refine ha O σ F H S _ fun v F1 H1 e1 h1 S1 d1 => ?_
  cases d1
  exact ⟨i, rfl, hl, k _ F1 H1 e1 h1 S1 (.str _)⟩
theorem ev_sum {ns : List Int} (ha : EvR c ta ρ (.list (ns.map PyData.int))) : Ev c b (tCB (rSum K) (tCons ta tNil)) ρ (.int ns.sum) := fun O σ F H S Q k => by
  refine ha O σ F H S _ fun v F1 H1 e1 h1 S1 d1 => ?_
  cases d1 with
  | lst r q =>
    have e := q.ints
    subst e
    exact ⟨_, ns, rfl, dd_sq (fun _ _ h => h) (Evl.Ex.refl _) r, k _ F1 H1 e1 h1 S1 (.int _)⟩
theorem ev_min {ns : List Int} {m : Int} (ha : EvR c ta ρ (.list (ns.map PyData.int))) (hm : m ∈ ns) (hle : ∀ y ∈ ns, m ≤ y) : Ev c b (tCB (rMin K) (tCons ta tNil)) ρ (.int m) := fun O σ F H S Q k => by
  refine ha O σ F H S _ fun v F1 H1 e1 h1 S1 d1 => ?_
  cases d1 with
  | lst r q =>
    have e := q.ints
    subst e
    refine ⟨_, ns, rfl, dd_sq (fun _ _ h => h) (Evl.Ex.refl _) r, List.length_pos_of_mem hm, fun n h1' h2' => ?_⟩
    have e : n = m := by
      have a1 := h2' m hm
      have a2 := hle n h1'
      omega
    rw [e]
    exact k _ F1 H1 e1 h1 S1 (.int _)
theorem ev_max {ns : List Int} {m : Int} (ha : EvR c ta ρ (.list (ns.map PyData.int))) (hm : m ∈ ns) (hle : ∀ y ∈ ns, y ≤ m) : Ev c b (tCB (rMax K) (tCons ta tNil)) ρ (.int m) := fun O σ F H S Q k => by
  refine ha O σ F H S _ fun v F1 H1 e1 h1 S1 d1 => ?_
  cases d1 with
  | lst r q =>
    have e := q.ints
    subst e
    refine ⟨_, ns, rfl, dd_sq (fun _ _ h => h) (Evl.Ex.refl _) r, List.length_pos_of_mem hm, fun n h1' h2' => ?_⟩
    have e : n = m := by
      have a1 := h2' m hm
      have a2 := hle n h1'
      omega
    rw [e]
    exact k _ F1 H1 e1 h1 S1 (.int _)
theorem ev_all {bs : List Bool} (ha : EvR c ta ρ (.list (bs.map PyData.bool))) : Ev c b (tCB (rAll K) (tCons ta tNil)) ρ (.bool (bs.all id)) := fun O σ F H S Q k => by
  refine ha O σ F H S _ fun v F1 H1 e1 h1 S1 d1 => ?_
  cases d1 with
  | lst r q =>
    have e := q.bls
    subst e
    exact ⟨_, bs, rfl, dd_sq (fun _ _ h => h) (Evl.Ex.refl _) r, k _ F1 H1 e1 h1 S1 (.bl _)⟩
/-! in, over flat things -/
def flatD : PyData → Bool
  | .none => true
  | .bool _ => true
  | .int _ => true
  | .str _ => true
  | _ => false
theorem inV_int {ns : List Int} {k : Int} : inV (.int k) (ns.map V.int) = decide (k ∈ ns) := by
  induction ns with
  | nil => rfl
  | cons n r ih =>
    unfold inV at *
    rw [List.map_cons, List.any_cons, ih]
    show (n == k || _) = _
    by_cases h : n = k
    · subst h; simp
    · have h2 : ¬ k = n := fun e => h e.symm
      simp [h, h2]
theorem flat_ints (ns : List Int) : (ns.map V.int).all flatV = true := by simp [flatV]
theorem ev_inI {ns : List Int} (ha : EvR c ta ρ (.int i)) (hb : EvR c tb ρ (.list (ns.map PyData.int))) : Ev c b (tOp (rIn K false) ta tb) ρ (.bool (decide (i ∈ ns))) := fun O σ F H S Q k =>
  ha O σ F H S _ fun v F1 H1 e1 h1 S1 d1 => hb O σ F1 H1 S1 _ fun w F2 H2 e2 h2 S2 d2 => by
    cases d1
    cases d2 with
    | lst r q =>
      have e := q.ints
      subst e
      refine ⟨_, _, rfl, .inl (dd_sq (fun _ _ h => h) (Evl.Ex.refl _) r), rfl, flat_ints ns, ?_⟩
      rw [inV_int]
      exact k _ F2 H2 (e1.trans e2) (h1.trans h2) S2 (.bl _)
theorem ev_niI {ns : List Int} (ha : EvR c ta ρ (.int i)) (hb : EvR c tb ρ (.list (ns.map PyData.int))) : Ev c b (tOp (rIn K true) ta tb) ρ (.bool (!decide (i ∈ ns))) := fun O σ F H S Q k =>
  ha O σ F H S _ fun v F1 H1 e1 h1 S1 d1 => hb O σ F1 H1 S1 _ fun w F2 H2 e2 h2 S2 d2 => by
    cases d1
    cases d2 with
    | lst r q =>
      have e := q.ints
      subst e
      refine ⟨_, _, rfl, .inl (dd_sq (fun _ _ h => h) (Evl.Ex.refl _) r), rfl, flat_ints ns, ?_⟩
      rw [inV_int]
      exact k _ F2 H2 (e1.trans e2) (h1.trans h2) S2 (.bl _)
theorem inV_str {ns : List Str} {k : Str} : inV (.str k) (ns.map V.str) = decide (k ∈ ns) := by
  induction ns with
  | nil => rfl
  | cons n r ih =>
    unfold inV at *
    rw [List.map_cons, List.any_cons, ih]
    show (n == k || _) = _
    by_cases h : n = k
    · subst h; simp
    · have h2 : ¬ k = n := fun e => h e.symm
      simp [h, h2]
theorem flat_strs (ns : List Str) : (ns.map V.str).all flatV = true := by simp [flatV]
theorem ev_inZ {ns : List Str} {z : Str} (ha : EvR c ta ρ (.str z)) (hb : EvR c tb ρ (.list (ns.map PyData.str))) : Ev c b (tOp (rIn K false) ta tb) ρ (.bool (decide (z ∈ ns))) := fun O σ F H S Q k =>
  ha O σ F H S _ fun v F1 H1 e1 h1 S1 d1 => hb O σ F1 H1 S1 _ fun w F2 H2 e2 h2 S2 d2 => by
    cases d1
    cases d2 with
    | lst r q =>
      have e := q.strs
      subst e
      refine ⟨_, _, rfl, .inl (dd_sq (fun _ _ h => h) (Evl.Ex.refl _) r), rfl, flat_strs ns, ?_⟩
      rw [inV_str]
      exact k _ F2 H2 (e1.trans e2) (h1.trans h2) S2 (.bl _)
theorem ev_niZ {ns : List Str} {z : Str} (ha : EvR c ta ρ (.str z)) (hb : EvR c tb ρ (.list (ns.map PyData.str))) : Ev c b (tOp (rIn K true) ta tb) ρ (.bool (!decide (z ∈ ns))) := fun O σ F H S Q k =>
  ha O σ F H S _ fun v F1 H1 e1 h1 S1 d1 => hb O σ F1 H1 S1 _ fun w F2 H2 e2 h2 S2 d2 => by
    cases d1
    cases d2 with
    | lst r q =>
      have e := q.strs
      subst e
      refine ⟨_, _, rfl, .inl (dd_sq (fun _ _ h => h) (Evl.Ex.refl _) r), rfl, flat_strs ns, ?_⟩
      rw [inV_str]
      exact k _ F2 H2 (e1.trans e2) (h1.trans h2) S2 (.bl _)
theorem ev_addS {x y : Str} (ha : EvR c ta ρ (.str x)) (hb : EvR c tb ρ (.str y)) (hl : x.length + y.length ≤ 100000) : Ev c b (tOp (fun x y H Q => ∃ i j, x = V.str i ∧ y = V.str j ∧ i.length + j.length ≤ sizeLine ∧ Q (.str (i ++ j)) H) ta tb) ρ (.str (x ++ y)) := fun O σ F H S Q k =>
  ha O σ F H S _ fun v F1 H1 e1 h1 S1 d1 => hb O σ F1 H1 S1 _ fun w F2 H2 e2 h2 S2 d2 => by
    cases d1
    cases d2
    exact ⟨x, y, rfl, rfl, Evl.sz_of hl, k _ F2 H2 (e1.trans e2) (h1.trans h2) S2 (.str _)⟩
/-! x is None -/
theorem ev_isN (ha : EvR c ta ρ d) (hb : EvR c tb ρ .none) : Ev c b (tOp (fun x y H Q => y = V.non ∧ Q (.bl (decide (x = .non))) H) ta tb) ρ (.bool (match d with | .none => true | _ => false)) := fun O σ F H S Q k =>
  ha O σ F H S _ fun v F1 H1 e1 h1 S1 d1 => hb O σ F1 H1 S1 _ fun w F2 H2 e2 h2 S2 d2 => by
    cases d2
    refine ⟨rfl, k _ F2 H2 (e1.trans e2) (h1.trans h2) S2 ?_⟩
    cases d1 <;> exact .bl _
theorem ev_notN (ha : EvR c ta ρ d) (hb : EvR c tb ρ .none) : Ev c b (tOp (fun x y H Q => y = V.non ∧ Q (.bl (!decide (x = .non))) H) ta tb) ρ (.bool (match d with | .none => false | _ => true)) := fun O σ F H S Q k =>
  ha O σ F H S _ fun v F1 H1 e1 h1 S1 d1 => hb O σ F1 H1 S1 _ fun w F2 H2 e2 h2 S2 d2 => by
    cases d2
    refine ⟨rfl, k _ F2 H2 (e1.trans e2) (h1.trans h2) S2 ?_⟩
    cases d1 <;> exact .bl _
end
end DL

end
section
set_option maxRecDepth 100000
set_option maxHeartbeats 2000000
namespace DL
open PySem L2
/-! ### stores into slots -/
section
variable {K : PySem.W.Frag} {c : Cq K} {O O' : Addr → Prop} {ρ ρ' : Rho} {σ : St} {F H F' H' : Hp} {b : Bool} {d : PyData} {ds : List PyData}
theorem Sim.sub (S : Sim c O ρ σ F H) (h : ∀ a, O' a → F a = none ∧ H a ≠ none) : Sim c O' ρ σ F H := ⟨S.base, S.ff, h, S.len, S.sl, S.apart⟩
theorem Sim.setS (S : Sim c O ρ σ F H) {j : Nat} {s : Sl} {o : Option V} (x : SlOk c F H s o) (ap : ∀ a, s.Owns o a → NotOwn ρ σ a) : Sim c O (ρ.set j s) (σ.set j o) F H := by
  refine ⟨S.base, S.ff, S.prot, by rw [List.length_set, List.length_set]; exact S.len, fun i t p h1 h2 => ?_, fun i k t u p q a h1 h2 h3 h4 h5 h6 => ?_⟩
  · by_cases e : j = i
    · subst e
      rw [List.getElem?_set] at h1 h2
      split at h1
      · split at h1
        · cases h1
          rw [if_pos rfl] at h2
          split at h2
          · cases h2; exact x
          · cases h2
        · cases h1
      · exact absurd rfl (by assumption)
    · rw [List.getElem?_set_ne e] at h1 h2
      exact S.sl i t p h1 h2
  · have g : ∀ (i : Nat) (t : Sl) (p : Option V), (ρ.set j s)[i]? = some t → (σ.set j o)[i]? = some p → (i = j ∧ t = s ∧ p = o) ∨ (i ≠ j ∧ ρ[i]? = some t ∧ σ[i]? = some p) := fun i t p h1 h2 => by
      by_cases e : j = i
      · subst e
        rw [List.getElem?_set] at h1 h2
        rw [if_pos rfl] at h1 h2
        split at h1
        · split at h2
          · cases h1; cases h2; exact .inl ⟨rfl, rfl, rfl⟩
          · cases h2
        · cases h1
      · rw [List.getElem?_set_ne e] at h1 h2
        exact .inr ⟨fun z => e z.symm, h1, h2⟩
    rcases g i t p h1 h3 with ⟨e1, e2, e3⟩ | ⟨e1, e2, e3⟩
    · rcases g k u q h2 h4 with ⟨f1, f2, f3⟩ | ⟨f1, f2, f3⟩
      · rw [e1, f1]
      · subst e2; subst e3
        exact absurd h6 (ap a h5 k u q f2 f3)
    · rcases g k u q h2 h4 with ⟨f1, f2, f3⟩ | ⟨f1, f2, f3⟩
      · subst f2; subst f3
        exact absurd h5 (ap a h6 i t p e2 e3)
      · exact S.apart i k t u p q a e2 f2 e3 f3 h5 h6
theorem Sim.setVal (S : Sim c O ρ σ F H) {v : V} (j : Nat) (x : Dd (c.pw b) F v d) : Sim c O (ρ.set j (.val b d)) (σ.set j (some v)) F H := S.setS ⟨v, rfl, x⟩ fun a (h : False) => h.elim
theorem Sim.setOwn (S : Sim c O ρ σ F H) {p : Addr} {xs : List V} (j : Nat) (fp : F p = none) (hp : H p = some (.lst xs)) (no : NotOwn ρ σ p) (x : DdAll (c.pw b) F xs ds) :
    Sim c O (ρ.set j (.own b ds)) (σ.set j (some (.ref p))) F H := S.setS ⟨p, xs, rfl, fp, hp, x⟩ fun a (e : some (V.ref p) = some (V.ref a)) => by
  cases e
  exact no
/-- slots forgotten -/
inductive Le : Rho → Rho → Prop
  | nil : Le [] []
  | keep {s : Sl} {r r' : Rho} : Le r r' → Le (s :: r) (s :: r')
  | drop {s : Sl} {r r' : Rho} : Le r r' → Le (.no :: r) (s :: r')
  | old {d : PyData} {r r' : Rho} : Le r r' → Le (.val false d :: r) (.val true d :: r')
  | sca {b b' : Bool} {d : PyData} {r r' : Rho} : isSca d = true → Le r r' → Le (.val b d :: r) (.val b' d :: r')
  | eq {s s' : Sl} {r r' : Rho} : s = s' → Le r r' → Le (s :: r) (s' :: r')
theorem Le.refl : ∀ (ρ : Rho), Le ρ ρ
  | [] => .nil
  | _ :: r => .keep (Le.refl r)
theorem Le.length : ∀ {ρ ρ' : Rho}, Le ρ ρ' → ρ.length = ρ'.length
  | _, _, .nil => rfl
  | _, _, .keep h => by simp [Le.length h]
  | _, _, .drop h => by simp [Le.length h]
  | _, _, .old h => by simp [Le.length h]
  | _, _, .sca _ h => by simp [Le.length h]
  | _, _, .eq _ h => by simp [Le.length h]
/-- a slot that is known less -/
def LeS (s s' : Sl) : Prop := s = .no ∨ s = s' ∨ (∃ d, s = .val false d ∧ s' = .val true d) ∨ ∃ b b' d, isSca d = true ∧ s = .val b d ∧ s' = .val b' d
theorem Le.get : ∀ {ρ ρ' : Rho}, Le ρ ρ' → ∀ (i : Nat) (s : Sl), ρ[i]? = some s → ∃ s', ρ'[i]? = some s' ∧ LeS s s'
  | _, _, .nil, i, s, h => by simp at h
  | _, _, .keep l, 0, s, h => by simp at h; subst h; exact ⟨_, rfl, .inr (.inl rfl)⟩
  | _, _, .drop l, 0, s, h => by simp at h; subst h; exact ⟨_, rfl, .inl rfl⟩
  | _, _, .old l, 0, s, h => by simp at h; subst h; exact ⟨_, rfl, .inr (.inr (.inl ⟨_, rfl, rfl⟩))⟩
  | _, _, .sca q l, 0, s, h => by simp at h; subst h; exact ⟨_, rfl, .inr (.inr (.inr ⟨_, _, _, q, rfl, rfl⟩))⟩
  | _, _, .eq e l, 0, s, h => by simp at h; subst h; exact ⟨_, rfl, .inr (.inl e)⟩
  | _, _, .keep l, i + 1, s, h => by simpa using Le.get l i s (by simpa using h)
  | _, _, .drop l, i + 1, s, h => by simpa using Le.get l i s (by simpa using h)
  | _, _, .old l, i + 1, s, h => by simpa using Le.get l i s (by simpa using h)
  | _, _, .sca _ l, i + 1, s, h => by simpa using Le.get l i s (by simpa using h)
  | _, _, .eq _ l, i + 1, s, h => by simpa using Le.get l i s (by simpa using h)
theorem LeS.ok {s s' : Sl} {o : Option V} (l : LeS s s') (x : SlOk c F H s' o) : SlOk c F H s o := by
  rcases l with rfl | rfl | ⟨d, rfl, rfl⟩ | ⟨b, b', d, q, rfl, rfl⟩
  · trivial
  · exact x
  · obtain ⟨v, e, d⟩ := x
    exact ⟨v, e, d.up Cq.more (Evl.Ex.refl _)⟩
  · obtain ⟨v, e, d⟩ := x
    exact ⟨v, e, d.sca q⟩
theorem LeS.own {s s' : Sl} {o : Option V} {a : Addr} (l : LeS s s') (h : s.Owns o a) : s'.Owns o a := by
  rcases l with rfl | rfl | ⟨d, rfl, rfl⟩ | ⟨b, b', d, q, rfl, rfl⟩
  · exact (show False from h).elim
  · exact h
  · exact (show False from h).elim
  · exact (show False from h).elim
theorem Sim.le (S : Sim c O ρ' σ F H) (l : Le ρ ρ') : Sim c O ρ σ F H :=
  ⟨S.base, S.ff, S.prot, by rw [S.len, l.length], fun i s o h1 h2 => by
    obtain ⟨s', e, q⟩ := l.get i s h1
    exact q.ok (S.sl i s' o e h2), fun i j s t o o' a h1 h2 h3 h4 h5 h6 => by
    obtain ⟨s', e, q⟩ := l.get i s h1
    obtain ⟨t', e', q'⟩ := l.get j t h2
    exact S.apart i j s' t' o o' a e e' h3 h4 (q.own h5) (q'.own h6)⟩
/-- the owned list in slot i becomes data -/
theorem Sim.freeze (S : Sim c O ρ σ F H) {i : Nat} (h : ρ[i]? = some (.own b ds)) : ∃ F', Ex F F' ∧ Sim c (fun _ => False) (ρ.set i (.val b (.list ds))) σ F' H := by
  obtain ⟨o, ho, a, xs, e, f0, h1, dd⟩ := S.get h
  subst e
  have ef : Ex F (upd F a (.lst xs)) := Evl.Ex.new f0
  have n0 : c.H0 a = none := Evl.fresh_back S.base f0
  have ff : Ex (upd F a (.lst xs)) H := fun x o e => by
    by_cases z : x = a
    · subst z; rw [upd_same] at e; cases e; exact h1
    · rw [upd_ne z] at e; exact S.ff x o e
  refine ⟨_, ef, S.base.trans ef, ff, fun _ h => h.elim, by rw [List.length_set]; exact S.len, fun k s o h3 h4 => ?_, fun k l s t p q x h3 h4 h5 h6 h7 h8 => ?_⟩
  · rw [List.getElem?_set] at h3
    split at h3
    · split at h3
      · cases h3
        rename_i q _
        subst q
        rw [ho] at h4
        cases h4
        exact ⟨_, rfl, .lst (.inl ⟨Cq.any n0, .inl upd_same⟩) (dd.ex ef)⟩
      · cases h3
    · rename_i nik
      have x := S.sl k s o h3 h4
      refine x.move ef fun a' ha => ⟨?_, rfl⟩
      have z : a' ≠ a := fun z => by
        subst z
        exact nik (S.apart i k _ _ _ _ a' h h3 ho h4 rfl ha)
      rw [upd_ne z]
      exact (x.owned ha).1
  · have g : ∀ (k : Nat) (s : Sl) (p : Option V), (ρ.set i (.val b (.list ds)))[k]? = some s → s.Owns p x → ρ[k]? = some s := fun k s p q1 q2 => by
      rw [List.getElem?_set] at q1
      split at q1
      · split at q1
        · cases q1; exact (show False from q2).elim
        · cases q1
      · exact q1
    exact S.apart k l s t p q x (g k s p h3 h7) (g l t q h4 h8) h5 h6 h7 h8
/-- the owned list in slot i is changed -/
theorem Sim.write (S : Sim c O ρ σ F H) {i : Nat} {p : Addr} {xs ys : List V} {es : List PyData} (h : ρ[i]? = some (.own b ds)) (ho : σ[i]? = some (some (V.ref p))) (hp : H p = some (.lst xs)) (x : DdAll (c.pw b) F ys es) :
    Sim c O (ρ.set i (.own b es)) σ F (upd H p (.lst ys)) := by
  obtain ⟨o, ho', a, xs', e, f0, h1, dd⟩ := S.get h
  rw [ho] at ho'
  cases ho'
  cases e
  refine ⟨S.base, S.ff.mut f0, fun x hx => ⟨(S.prot x hx).1, ?_⟩, by rw [List.length_set]; exact S.len, fun k s o h3 h4 => ?_, fun k l s t u v x h3 h4 h5 h6 h7 h8 => ?_⟩
  · by_cases z : x = p
    · rw [z, upd_same]; simp
    · rw [upd_ne z]; exact (S.prot x hx).2
  · rw [List.getElem?_set] at h3
    split at h3
    · split at h3
      · cases h3
        rename_i q _
        subst q
        rw [ho] at h4
        cases h4
        exact ⟨p, ys, rfl, f0, upd_same, x⟩
      · cases h3
    · rename_i nik
      have x := S.sl k s o h3 h4
      refine x.move (Evl.Ex.refl _) fun a' ha => ⟨(x.owned ha).1, ?_⟩
      have z : a' ≠ p := fun z => by
        subst z
        exact nik (S.apart i k _ _ _ _ a' h h3 ho h4 rfl ha)
      rw [upd_ne z]
  · have g : ∀ (k : Nat) (s : Sl) (u : Option V), (ρ.set i (.own b es))[k]? = some s → s.Owns u x → ∃ s', ρ[k]? = some s' ∧ s'.Owns u x := fun k s u q1 q2 => by
      rw [List.getElem?_set] at q1
      split at q1
      · split at q1
        · cases q1
          rename_i q _
          subst q
          exact ⟨_, h, q2⟩
        · cases q1
      · exact ⟨s, q1, q2⟩
    obtain ⟨s', e1, e2⟩ := g k s u h3 h7
    obtain ⟨t', e3, e4⟩ := g l t v h4 h8
    exact S.apart k l s' t' u v x e1 e3 h5 h6 e2 e4
end
/-! ### targets -/
def wipeR (ρ : Rho) : List Nat → Rho
  | [] => ρ
  | v :: vs => (wipeR ρ vs).set v .no
theorem Sim.wipe {K : PySem.W.Frag} {c : Cq K} {O : Addr → Prop} {ρ : Rho} {σ : St} {F H : Hp} (S : Sim c O ρ σ F H) : ∀ vs, Sim c O (wipeR ρ vs) (wipe σ vs) F H
  | [] => S
  | v :: vs => by
    unfold wipeR L2.wipe
    exact (Sim.wipe S vs).setS (s := .no) trivial fun a (h : False) => h.elim
theorem wipe_get {σ : St} : ∀ (vs : List Nat) (i : Nat), (wipe σ vs)[i]? = if i ∈ vs then (if i < σ.length then some none else none) else σ[i]?
  | [], i => by simp [L2.wipe]
  | v :: vs, i => by
    unfold L2.wipe
    rw [List.getElem?_set]
    by_cases e : v = i
    · subst e
      rw [if_pos rfl, L2.wipe_length, if_pos List.mem_cons_self]
    · rw [if_neg e, wipe_get vs i]
      have e2 : ¬ i = v := fun z => e z.symm
      simp [e2]
theorem wipe_eq {σ σ2 : St} {vs js : List Nat} (hl : σ2.length = (wipe σ vs).length) (ha : ∀ i, i ∉ js → σ2[i]? = (wipe σ vs)[i]?) (hj : ∀ j ∈ js, j ∈ vs) : wipe σ2 vs = wipe σ vs := by
  refine List.ext_getElem? fun i => ?_
  rw [wipe_get, wipe_get]
  have hl2 : σ2.length = σ.length := by rw [hl, L2.wipe_length]
  by_cases h : i ∈ vs
  · rw [if_pos h, if_pos h, hl2]
  · rw [if_neg h, if_neg h, ha i fun z => h (hj i z), wipe_get, if_neg h]
def TgOk {K : PySem.W.Frag} (c : Cq K) (b : Bool) (g : TG) (js : List Nat) (ρ : Rho) (d : PyData) (ρ' : Rho) : Prop := ∀ (O : Addr → Prop) (σ : St) (F H : Hp) (v : V), Sim c O ρ σ F H → Dd (c.pw b) F v d → ∀ Q : St → Hp → Prop,
  (∀ σ' : St, σ'.length = σ.length → (∀ i, i ∉ js → σ'[i]? = σ[i]?) → Sim c O ρ' σ' F H → Q σ' H) → g v σ H Q
def TgsOk {K : PySem.W.Frag} (c : Cq K) (b : Bool) (g : TGs) (js : List Nat) (ρ : Rho) (ds : List PyData) (ρ' : Rho) : Prop := ∀ (O : Addr → Prop) (σ : St) (F H : Hp) (vs : List V), Sim c O ρ σ F H → DdAll (c.pw b) F vs ds → ∀ Q : St → Hp → Prop,
  (∀ σ' : St, σ'.length = σ.length → (∀ i, i ∉ js → σ'[i]? = σ[i]?) → Sim c O ρ' σ' F H → Q σ' H) → g vs σ H Q
section
variable {K : PySem.W.Frag} {c : Cq K} {b b' : Bool} {ρ ρ1 ρ2 : Rho} {d : PyData} {ds : List PyData} {j n : Nat} {js ks : List Nat} {g : TG} {gs : TGs}
theorem tg_name : TgOk c b (gName j) [j] ρ d (ρ.set j (.val b d)) := fun O σ F H v S x Q k =>
  k _ (by rw [List.length_set]) (fun i hi => List.getElem?_set_ne (fun e => hi (by simp [e]))) (S.setVal j x)
theorem tgs_nil : TgsOk c b gNil [] ρ [] ρ := fun O σ F H vs S x Q k => by
  cases x
  exact ⟨rfl, k σ rfl (fun _ _ => rfl) S⟩
theorem tgs_cons (h : TgOk c b g js ρ d ρ1) (hs : TgsOk c b gs ks ρ1 ds ρ2) : TgsOk c b (gCons g gs) (js ++ ks) ρ (d :: ds) ρ2 := fun O σ F H vs S x Q k => by
  cases x with
  | cons p q =>
    refine ⟨_, _, rfl, h O σ F H _ S p _ fun σ1 l1 a1 S1 => hs O σ1 F H _ S1 q _ fun σ2 l2 a2 S2 => k σ2 (l2.trans l1) (fun i hi => ?_) S2⟩
    rw [a2 i fun z => hi (List.mem_append_right _ z), a1 i fun z => hi (List.mem_append_left _ z)]
theorem tg_unl (h : TgsOk c b gs js ρ ds ρ1) (hn : ds.length = n) : TgOk c b (gUnl K n gs) js ρ (.list ds) ρ1 := fun O σ F H v S x Q k => by
  cases x with
  | lst r q => exact ⟨_, _, rfl, dd_sq Cq.kl S.ff r, by rw [q.length]; exact hn, h O σ F H _ S q Q k⟩
theorem tg_tup (h : TgsOk c b gs js ρ ds ρ1) (hn : ds.length = n) : TgOk c b (gTup K n gs) js ρ (.tuple ds) ρ1 := fun O σ F H v S x Q k => by
  cases x with
  | tup p r q => exact ⟨_, _, rfl, .inl (rd_ex S.ff r), by rw [q.length]; exact hn, h O σ F H _ S q Q k⟩
end
/-! ### comprehensions -/
section
variable {K : PySem.W.Frag} {c : Cq K} {b b0 : Bool} {ρ : Rho} {g : TG} {tt : TT} {te tl : TE} {ta : TA} {vs js : List Nat} {i j : Int}
theorem eb_yes : EvB c tYes ρ true := fun O σ F H S Q k => k F H (Evl.Ex.refl _) (Evl.Ex.refl _) S
/-- the addresses that an evaluation has to leave alone -/
def ownA (ρ : Rho) (σ : St) : Addr → Prop := fun a => ∃ (i : Nat) (s : Sl) (o : Option V), ρ[i]? = some s ∧ σ[i]? = some o ∧ s.Owns o a
theorem Sim.ownA_prot {O : Addr → Prop} {σ : St} {F H : Hp} (S : Sim c O ρ σ F H) {a : Addr} (h : ownA ρ σ a) : F a = none ∧ H a ≠ none := by
  obtain ⟨i, s, o, h1, h2, h3⟩ := h
  exact (S.sl i s o h1 h2).owned h3
/-- a state seen again behind a growth of the heaps that left its lists alone, and a list at D beside -/
theorem Sim.again {O : Addr → Prop} {σ : St} {F H F' H' : Hp} {D : Addr} {ys : List V} (S : Sim c O ρ σ F H) (ef : Ex F F') (eh : Ex H H') (ff : Ex F' H') (hO : ∀ a, O a → F' a = none) (hw : ∀ a, ownA ρ σ a → F' a = none) (hD : ¬ ownA ρ σ D) (fD : F' D = none) :
    Sim c O ρ σ F' (upd H' D (.lst ys)) := by
  refine ⟨S.base.trans ef, ff.mut fD, fun a h => ⟨hO a h, ?_⟩, S.len, fun i s o h1 h2 => ?_, S.apart⟩
  · by_cases z : a = D
    · rw [z, upd_same]; simp
    · rw [upd_ne z]
      exact fun q => (S.prot a h).2 (Evl.fresh_back eh q)
  · have x := S.sl i s o h1 h2
    refine x.move ef fun a ha => ?_
    have oa : ownA ρ σ a := ⟨i, s, o, h1, h2, ha⟩
    have z : a ≠ D := fun z => hD (z ▸ oa)
    refine ⟨hw a oa, ?_⟩
    rw [upd_ne z]
    cases e : H a with
    | none => exact absurd e (x.owned ha).2
    | some u => exact eh a u e
theorem Sim.again0 {O : Addr → Prop} {σ : St} {F H F' H' : Hp} (S : Sim c O ρ σ F H) (ef : Ex F F') (eh : Ex H H') (ff : Ex F' H') (hO : ∀ a, O a → F' a = none) (hw : ∀ a, ownA ρ σ a → F' a = none) : Sim c O ρ σ F' H' := by
  refine ⟨S.base.trans ef, ff, fun a h => ⟨hO a h, fun q => (S.prot a h).2 (Evl.fresh_back eh q)⟩, S.len, fun i s o h1 h2 => ?_, S.apart⟩
  have x := S.sl i s o h1 h2
  refine x.move ef fun a ha => ?_
  refine ⟨hw a ⟨i, s, o, h1, h2, ha⟩, ?_⟩
  cases e : H a with
  | none => exact absurd e (x.owned ha).2
  | some u => exact eh a u e
/-- what stands between two turns of a comprehension -/
structure LcInv {K : PySem.W.Frag} (c : Cq K) (b : Bool) (O : Addr → Prop) (ρ : Rho) (σ : St) (F1 H1 : Hp) (D : Addr) (acc : List PyData) (F H : Hp) (ys : List V) : Prop where
  ef : Ex F1 F
  eh : Ex H1 H
  at_ : H D = some (.lst ys)
  fD : F D = none
  sim : Sim c O ρ σ F H
  dd : DdAll (c.pw b) F ys acc
theorem lc_turn {O : Addr → Prop} {σ : St} {F1 H1 F' H' : Hp} {D : Addr} {acc : List PyData} {ys : List V} {ρ' : Rho} {p : Bool} {h : PyData} {x : V} {d : PyData} {Pn : Hp → Prop} (I : LcInv c b O ρ σ F1 H1 D acc F' H' ys) (hD : H1 D = none) (nD : ¬ ownA ρ σ D) (dx : Dd (c.pw b0) F' x d)
    (ht : TgOk c b0 g js (wipeR ρ vs) d ρ' ∧ EvB c tt ρ' p ∧ (p = true → Ev c b te ρ' h)) (hjs : ∀ j ∈ js, j ∈ vs) (hz : acc.length < 50000)
    (hP : ∀ F2 H2 ys2, LcInv c b O ρ σ F1 H1 D (if p then acc ++ [h] else acc) F2 H2 ys2 → Pn H2) :
    g x (wipe σ vs) H' fun σ2 H2 => wipe σ2 vs = wipe σ vs ∧ tt σ2 H2 fun bb H3 => if bb = true then te σ2 H3 fun y H4 => ∃ acc, H4 D = some (.lst acc) ∧ acc.length < sizeLine ∧ Pn (upd H4 D (.lst (acc ++ [y]))) else Pn H3 := by
  obtain ⟨tg, eb, ee⟩ := ht
  have S0 : Sim c (fun a => O a ∨ a = D ∨ ownA ρ σ a) ρ σ F' H' := I.sim.sub fun a h => by
    rcases h with h | h | h
    · exact I.sim.prot a h
    · subst h; exact ⟨I.fD, by rw [I.at_]; simp⟩
    · exact I.sim.ownA_prot h
  refine tg _ _ F' H' x (S0.wipe vs) dx _ fun σ2 l2 a2 S2 => ⟨wipe_eq l2 a2 hjs, eb _ σ2 F' H' S2 _ fun F3 H3 e3 g3 S3 => ?_⟩
  cases p with
  | false =>
    refine iteF (hP F3 H3 ys ⟨I.ef.trans e3, I.eh.trans g3, g3 _ _ I.at_, (S3.prot D (.inr (.inl rfl))).1, ?_, I.dd.ex e3⟩)
    exact I.sim.again0 e3 g3 S3.ff (fun a h => (S3.prot a (.inl h)).1) fun a h => (S3.prot a (.inr (.inr h))).1
  | true =>
    refine iteT (ee rfl _ σ2 F3 H3 S3 _ fun y F4 H4 e4 g4 S4 dy => ?_)
    have fD4 : F4 D = none := (S4.prot D (.inr (.inl rfl))).1
    refine ⟨ys, g4 _ _ (g3 _ _ I.at_), Nat.lt_of_lt_of_le (by rw [I.dd.length]; exact hz) (by decide), hP F4 _ (ys ++ [y]) ⟨I.ef.trans (e3.trans e4), (I.eh.trans (g3.trans g4)).mut hD, upd_same, fD4, ?_, ?_⟩⟩
    · exact I.sim.again (e3.trans e4) (g3.trans g4) S4.ff (fun a h => (S4.prot a (.inl h)).1) (fun a h => (S4.prot a (.inr (.inr h))).1) nD fD4
    · exact (I.dd.ex (e3.trans e4)).append (.one dy)
theorem take_succ_filter {α : Type} (xs : List α) (p : α → Bool) {β : Type} (h : α → β) {i : Nat} {u : α} (e : xs[i]? = some u) : ((xs.take (i + 1)).filter p).map h = if p u then ((xs.take i).filter p).map h ++ [h u] else ((xs.take i).filter p).map h := by
  rw [List.take_add_one, e]
  simp only [Option.toList, List.filter_append, List.map_append]
  cases q : p u <;> simp [q]
theorem el_lc {α : Type} {xs : List α} {enc : α → PyData} (p : α → Bool) (h : α → PyData) (hl : EvE c b0 tl ρ (xs.map enc)) (hz : xs.length ≤ 40000) (hjs : ∀ j ∈ js, j ∈ vs)
    (ht : ∀ x ∈ xs, ∃ ρ', TgOk c b0 g js (wipeR ρ vs) (enc x) ρ' ∧ EvB c tt ρ' (p x) ∧ (p x = true → Ev c b te ρ' (h x))) :
    EvL c b (tLc (iList K tl) g tt te vs) ρ ((xs.filter p).map h) := fun O σ F H S Q k => by
  refine hl O σ F H S _ fun a xv F1 H1 e1 h1 S1 r1 d1 => ⟨a, rfl, ⟨_, r1⟩, fun D hD => ?_⟩
  have nD : ¬ ownA ρ σ D := fun z => (S1.ownA_prot z).2 hD
  have lenx : xv.length = xs.length := by rw [d1.length, List.length_map]
  refine lc_list (K := K) (a := a) (xs := xv) (fun i H' => ∃ F' ys, LcInv c b O ρ σ F1 H1 D (((xs.take i).filter p).map h) F' H' ys) ?_ ?_ ?_ ?_
  · exact ⟨F1, [], Evl.Ex.refl _, Evl.Ex.new hD, upd_same, S1.fresh hD, S1.lay hD, by simp; exact .nil⟩
  · rintro i H' hi ⟨F', ys, I⟩
    exact sq_ex I.eh r1
  · rintro i x H' hx ⟨F', ys, I⟩
    obtain ⟨d, hd, dd⟩ := d1.getV hx
    rw [List.getElem?_map] at hd
    cases hu : xs[i]? with
    | none => rw [hu] at hd; cases hd
    | some u =>
      rw [hu] at hd
      cases hd
      obtain ⟨ρ', ht'⟩ := ht u (List.mem_of_getElem? hu)
      refine lc_turn I hD nD (dd.ex I.ef) ht' hjs ?_ fun F2 H2 ys2 I2 => ⟨F2, ys2, ?_⟩
      · rw [List.length_map]
        have q1 := List.length_filter_le p (xs.take i)
        have q2 : (xs.take i).length ≤ xs.length := by rw [List.length_take]; omega
        omega
      · rw [take_succ_filter xs p h hu]
        exact I2
  · rintro H' ⟨F', ys, I⟩
    rw [lenx, List.take_length] at I
    exact k D ys F' H' (e1.trans I.ef) (h1.trans I.eh) I.sim (Evl.fresh_back h1 hD) I.fD I.at_ (fun i s o q1 q2 q3 => nD ⟨i, s, o, q1, q2, q3⟩) I.dd
/-- over range(n) -/
theorem el_lcR {n : Nat} (p : Nat → Bool) (h : Nat → PyData) (hl : EvA c ta ρ [.int (n : Int)]) (hz : n ≤ 40000) (hjs : ∀ j ∈ js, j ∈ vs)
    (ht : ∀ x, x < n → ∃ ρ', TgOk c true g js (wipeR ρ vs) (.int (x : Int)) ρ' ∧ EvB c tt ρ' (p x) ∧ (p x = true → Ev c b te ρ' (h x))) :
    EvL c b (tLc (iRng1 ta) g tt te vs) ρ (((List.range n).filter p).map h) := fun O σ F H S Q k => by
  refine hl O σ F H S _ fun ws F1 H1 e1 h1 S1 d1 => ?_
  cases d1 with
  | cons q1 q2 =>
    cases q1; cases q2
    refine ⟨(n : Int), rfl, by omega, by omega, fun D hD => ?_⟩
    have nD : ¬ ownA ρ σ D := fun z => (S1.ownA_prot z).2 hD
    have en : ((n : Int)).toNat = n := by omega
    rw [en]
    refine lc_range (lo := 0) (n := n) (fun i H' => ∃ F' ys, LcInv c b O ρ σ F1 H1 D ((((List.range n).take i).filter p).map h) F' H' ys) ?_ ?_ ?_
    · exact ⟨F1, [], Evl.Ex.refl _, Evl.Ex.new hD, upd_same, S1.fresh hD, S1.lay hD, by simp; exact .nil⟩
    · rintro i H' hi ⟨F', ys, I⟩
      obtain ⟨ρ', ht'⟩ := ht i hi
      have hu : (List.range n)[i]? = some i := by simp [hi]
      refine lc_turn (d := .int (i : Int)) I hD nD (by rw [Int.zero_add]; exact .int _) ht' hjs ?_ fun F2 H2 ys2 I2 => ⟨F2, ys2, ?_⟩
      · rw [List.length_map]
        have q1 := List.length_filter_le p ((List.range n).take i)
        have q2 : ((List.range n).take i).length ≤ n := by rw [List.length_take, List.length_range]; omega
        omega
      · rw [take_succ_filter (List.range n) p h hu]
        exact I2
    · rintro H' ⟨F', ys, I⟩
      rw [List.take_of_length_le (by simp)] at I
      exact k D ys F' H' (e1.trans I.ef) (h1.trans I.eh) I.sim (Evl.fresh_back h1 hD) I.fD I.at_ (fun i s o q1 q2 q3 => nD ⟨i, s, o, q1, q2, q3⟩) I.dd
/-- over range(lo, hi) -/
theorem el_lcR2 {lo : Int} {n : Nat} {hi : Int} (p : Nat → Bool) (h : Nat → PyData) (hl : EvA c ta ρ [.int lo, .int hi]) (hb : -20000 ≤ lo ∧ lo ≤ 20000 ∧ -20000 ≤ hi ∧ hi ≤ 20000) (en : (hi - lo).toNat = n) (hjs : ∀ j ∈ js, j ∈ vs)
    (ht : ∀ x, x < n → ∃ ρ', TgOk c true g js (wipeR ρ vs) (.int (lo + (x : Int))) ρ' ∧ EvB c tt ρ' (p x) ∧ (p x = true → Ev c b te ρ' (h x))) :
    EvL c b (tLc (iRng2 ta) g tt te vs) ρ (((List.range n).filter p).map h) := fun O σ F H S Q k => by
  refine hl O σ F H S _ fun ws F1 H1 e1 h1 S1 d1 => ?_
  cases d1 with
  | cons q1 q2 =>
    cases q1
    cases q2 with
    | cons q3 q4 =>
      cases q3; cases q4
      refine ⟨lo, hi, rfl, by omega, fun D hD => ?_⟩
      have nD : ¬ ownA ρ σ D := fun z => (S1.ownA_prot z).2 hD
      rw [en]
      refine lc_range (lo := lo) (n := n) (fun i H' => ∃ F' ys, LcInv c b O ρ σ F1 H1 D ((((List.range n).take i).filter p).map h) F' H' ys) ?_ ?_ ?_
      · exact ⟨F1, [], Evl.Ex.refl _, Evl.Ex.new hD, upd_same, S1.fresh hD, S1.lay hD, by simp; exact .nil⟩
      · rintro i H' hi' ⟨F', ys, I⟩
        obtain ⟨ρ', ht'⟩ := ht i hi'
        have hu : (List.range n)[i]? = some i := by simp [hi']
        refine lc_turn (d := .int (lo + (i : Int))) I hD nD (.int _) ht' hjs ?_ fun F2 H2 ys2 I2 => ⟨F2, ys2, ?_⟩
        · rw [List.length_map]
          have q1 := List.length_filter_le p ((List.range n).take i)
          have q2 : ((List.range n).take i).length ≤ n := by rw [List.length_take, List.length_range]; omega
          omega
        · rw [take_succ_filter (List.range n) p h hu]
          exact I2
      · rintro H' ⟨F', ys, I⟩
        rw [List.take_of_length_le (by simp)] at I
        exact k D ys F' H' (e1.trans I.ef) (h1.trans I.eh) I.sim (Evl.fresh_back h1 hD) I.fD I.at_ (fun i s o q1 q2 q3 => nD ⟨i, s, o, q1, q2, q3⟩) I.dd
end
end DL

end
section
set_option maxRecDepth 100000
set_option maxHeartbeats 2000000
namespace DL
open PySem L2
/-! ### statements -/
def Go {K : PySem.W.Frag} (c : Cq K) (B : Hp) (t : TS) (D : Ends) (ρ : Rho) : Prop := ∀ (O : Addr → Prop) (σ : St) (F H : Hp), Ex B F → Sim c O ρ σ F H → t D σ H
def Nx {K : PySem.W.Frag} (c : Cq K) (B : Hp) (D : Ends) (ρ : Rho) : Prop := ∀ (O : Addr → Prop) (σ : St) (F H : Hp), Ex B F → Sim c O ρ σ F H → D.nx σ H
/-- a state of one of these kinds -/
def Pst {K : PySem.W.Frag} (c : Cq K) (B : Hp) (I : Rho → Prop) : St → Hp → Prop := fun σ H => ∃ (O : Addr → Prop) (F : Hp) (ρ : Rho), Ex B F ∧ Sim c O ρ σ F H ∧ I ρ
/-- what a def may hand back -/
def Rt {K : PySem.W.Frag} (c : Cq K) (Q : VK) (d : PyData) : Prop := ∀ v H', Ex c.H0 H' → Dd (c.pw true) H' v d → Q v H'
/-- the expression leaves: nothing behind it is reached -/
def EvZ {K : PySem.W.Frag} (c : Cq K) (te : TE) (ρ : Rho) : Prop := ∀ (O : Addr → Prop) (σ : St) (F H : Hp), Sim c O ρ σ F H → ∀ Q : VK, te σ H Q
section
variable {K : PySem.W.Frag} {c : Cq K} {B : Hp} {b b' : Bool} {ρ ρ' : Rho} {D : Ends} {t u w tz : TS} {te ta to ti tl : TE} {tt : TT} {d : PyData} {ds es : List PyData} {i j n : Nat} {g : TG} {js : List Nat}
theorem nx_go (h : Go c B u D ρ) : Nx c B { D with nx := u D } ρ := h
theorem go_nx (h : Nx c B D ρ) : Go c B tNext D ρ := h
theorem go_weak (l : Le ρ' ρ) (h : Go c B t D ρ') : Go c B t D ρ := fun O σ F H e S => h O σ F H e (S.le l)
theorem nx_weak (l : Le ρ' ρ) (h : Nx c B D ρ') : Nx c B D ρ := fun O σ F H e S => h O σ F H e (S.le l)
theorem go_freeze (h : ρ[i]? = some (.own b ds)) (k : Go c B t D (ρ.set i (.val b (.list ds)))) : Go c B t D ρ := fun O σ F H e S => by
  obtain ⟨F', ef, S'⟩ := S.freeze h
  exact k _ σ F' H (e.trans ef) S'
theorem nx_freeze (h : ρ[i]? = some (.own b ds)) (k : Nx c B D (ρ.set i (.val b (.list ds)))) : Nx c B D ρ := fun O σ F H e S => by
  obtain ⟨F', ef, S'⟩ := S.freeze h
  exact k _ σ F' H (e.trans ef) S'
theorem nx_pst {I : Rho → Prop} {rt : VK} {bk ct : St → Hp → Prop} (h : I ρ) : Nx c B ⟨Pst c B I, rt, bk, ct⟩ ρ := fun O σ F H e S => ⟨O, F, ρ, e, S, h⟩
theorem nx_pst' {I : Rho → Prop} (e : D.nx = Pst c B I) (h : I ρ) : Nx c B D ρ := fun O σ F H e1 S => by rw [e]; exact ⟨O, F, ρ, e1, S, h⟩
/-! assignments -/
theorem go_tg (h : Ev c b te ρ d) (tg : TgOk c b g js ρ d ρ') (k : Nx c B D ρ') : Go c B (tAsg te g) D ρ := fun O σ F H e S =>
  h O σ F H S _ fun v F1 H1 e1 h1 S1 d1 => tg O σ F1 H1 v S1 d1 _ fun σ' _ _ S2 => k O σ' F1 H1 (e.trans e1) S2
theorem q_tg (h : Ev c b te ρ d) (tg : TgOk c b g js ρ d ρ') (k : Go c B tz D ρ') : Go c B (tSeq (tAsg te g) tz) D ρ := go_tg (D := { D with nx := tz D }) h tg k
theorem go_val (h : Ev c b te ρ d) (k : Nx c B D (ρ.set i (.val b d))) : Go c B (tAsg te (gName i)) D ρ := go_tg h tg_name k
theorem q_val (h : Ev c b te ρ d) (k : Go c B tz D (ρ.set i (.val b d))) : Go c B (tSeq (tAsg te (gName i)) tz) D ρ := go_val (D := { D with nx := tz D }) h k
theorem go_own (h : EvL c b te ρ ds) (k : Nx c B D (ρ.set i (.own b ds))) : Go c B (tAsg te (gName i)) D ρ := fun O σ F H e S =>
  h O σ F H S _ fun p xs F1 H1 e1 h1 S1 hp fp at_ no d1 => k O _ F1 H1 (e.trans e1) (S1.setOwn i fp at_ no d1)
theorem q_own (h : EvL c b te ρ ds) (k : Go c B tz D (ρ.set i (.own b ds))) : Go c B (tSeq (tAsg te (gName i)) tz) D ρ := go_own (D := { D with nx := tz D }) h k
theorem go_drop (h : Ev c b te ρ d) (k : Nx c B D ρ) : Go c B (tDrop te) D ρ := fun O σ F H e S => h O σ F H S _ fun v F1 H1 e1 h1 S1 d1 => k O σ F1 H1 (e.trans e1) S1
theorem q_drop (h : Ev c b te ρ d) (k : Go c B tz D ρ) : Go c B (tSeq (tDrop te) tz) D ρ := go_drop (D := { D with nx := tz D }) h k
theorem go_ret (h : Ev c true te ρ d) (k : Rt c D.rt d) : Go c B (tRet te) D ρ := fun O σ F H e S => h O σ F H S _ fun v F1 H1 e1 h1 S1 d1 => k v H1 S1.bb (d1.ex S1.ff)
theorem q_ret (h : Ev c true te ρ d) (k : Rt c D.rt d) : Go c B (tSeq (tRet te) tz) D ρ := go_ret (D := { D with nx := tz D }) h k
theorem go_retN (k : Rt c D.rt .none) : Go c B tRetN D ρ := fun O σ F H e S => k _ H S.bb .non
/-- the whole of a list def: nothing is handed back at its end -/
theorem go_retO (h : ρ[i]? = some (.own true ds)) (k : Rt c D.rt (.list ds)) : Go c B (tRet (tVar i)) D ρ := go_freeze h (go_ret (ev_var (List.getElem?_set_self (List.getElem?_eq_some_iff.mp h).1)) k)
theorem go_aug {f : Int → Int → Int} {x y : Int} (hx : ρ[i]? = some (.val b (.int x))) (h : EvR c te ρ (.int y)) (k : Nx c B D (ρ.set i (nI (f x y)))) : Go c B (tAug i te (ipI f)) D ρ := fun O σ F H e S => by
  obtain ⟨o, ho, v, ev, dd⟩ := S.get hx
  cases dd
  refine ⟨.int x, by rw [ho, ev], h O σ F H S _ fun w F1 H1 e1 h1 S1 d1 => ?_⟩
  cases d1
  exact ⟨x, y, rfl, rfl, k O _ F1 H1 (e.trans e1) (S1.setVal (b := false) (d := .int (f x y)) i (.int _))⟩
theorem q_aug {f : Int → Int → Int} {x y : Int} (hx : ρ[i]? = some (.val b (.int x))) (h : EvR c te ρ (.int y)) (k : Go c B tz D (ρ.set i (nI (f x y)))) : Go c B (tSeq (tAug i te (ipI f)) tz) D ρ := go_aug (D := { D with nx := tz D }) hx h k
/-! lists changed -/
theorem go_app (h : ρ[i]? = some (.own b ds)) (hd : Ev c b te ρ d) (hz : ds.length < 100000) (k : Nx c B D (ρ.set i (.own b (ds ++ [d])))) : Go c B (tDrop (tBM K "list" rAppend (tVar i) (tCons te tNil))) D ρ := fun O σ F H e S => by
  obtain ⟨o, ho, a, xs, eo, f0, h1, dd⟩ := S.get h
  subst eo
  refine ⟨_, ho, .inl ⟨rfl, _, .inl (.inl h1)⟩, hd O σ F H S _ fun v F1 H1 e1 g1 S1 d1 => ?_⟩
  have h2 := g1 _ _ h1
  exact ⟨a, xs, v, rfl, rfl, h2, Evl.sz_lt (by rw [dd.length]; exact hz), k O σ F1 _ (e.trans e1) (S1.write h ho h2 ((dd.ex e1).append (.one d1)))⟩
theorem q_app (h : ρ[i]? = some (.own b ds)) (hd : Ev c b te ρ d) (hz : ds.length < 100000) (k : Go c B tz D (ρ.set i (.own b (ds ++ [d])))) : Go c B (tSeq (tDrop (tBM K "list" rAppend (tVar i) (tCons te tNil))) tz) D ρ := go_app (D := { D with nx := tz D }) h hd hz k
/-- xs.insert(i, y) -/
abbrev rInsert : V → List V → Hp → VK → Prop := fun x vs H Q => ∃ (l : Addr) (xs : List V) (i : Int) (y : V), x = .ref l ∧ vs = [.int i, y] ∧ H l = some (.lst xs) ∧ xs.length < sizeLine ∧ 0 ≤ i ∧ i < 2 ^ 63 ∧ Q .non (upd H l (.lst (xs.take i.toNat ++ [y] ++ xs.drop i.toNat)))
theorem go_insert {k0 : Int} (h : ρ[i]? = some (.own b ds)) (hi : EvR c ti ρ (.int k0)) (hd : Ev c b te ρ d) (hz : ds.length < 100000) (h0 : 0 ≤ k0 ∧ k0 < 2 ^ 63) (k : Nx c B D (ρ.set i (.own b (ds.take k0.toNat ++ [d] ++ ds.drop k0.toNat)))) :
    Go c B (tDrop (tBM K "list" rInsert (tVar i) (tCons ti (tCons te tNil)))) D ρ := fun O σ F H e S => by
  obtain ⟨o, ho, a, xs, eo, f0, h1, dd⟩ := S.get h
  subst eo
  refine ⟨_, ho, .inl ⟨rfl, _, .inl (.inl h1)⟩, hi O σ F H S _ fun v F1 H1 e1 g1 S1 d1 => hd O σ F1 H1 S1 _ fun v2 F2 H2 e2 g2 S2 d2 => ?_⟩
  cases d1
  have h2 := g2 _ _ (g1 _ _ h1)
  have dd2 := dd.ex (e1.trans e2)
  exact ⟨a, xs, k0, v2, rfl, rfl, h2, Evl.sz_lt (by rw [dd.length]; exact hz), h0.1, h0.2, k O σ F2 _ (e.trans (e1.trans e2)) (S2.write h ho h2 (((dd2.take _).append (.one d2)).append (dd2.drop _)))⟩
theorem q_insert {k0 : Int} (h : ρ[i]? = some (.own b ds)) (hi : EvR c ti ρ (.int k0)) (hd : Ev c b te ρ d) (hz : ds.length < 100000) (h0 : 0 ≤ k0 ∧ k0 < 2 ^ 63) (k : Go c B tz D (ρ.set i (.own b (ds.take k0.toNat ++ [d] ++ ds.drop k0.toNat)))) :
    Go c B (tSeq (tDrop (tBM K "list" rInsert (tVar i) (tCons ti (tCons te tNil)))) tz) D ρ := go_insert (D := { D with nx := tz D }) h hi hd hz h0 k
/-- xs.remove(k), ints -/
theorem map_erase {α β : Type} (f : α → β) : ∀ (xs : List α) (j : Nat), (xs.eraseIdx j).map f = (xs.map f).eraseIdx j
  | [], j => by simp
  | a :: r, 0 => rfl
  | a :: r, j + 1 => by
    show f a :: (r.eraseIdx j).map f = f a :: (r.map f).eraseIdx j
    rw [map_erase f r j]
theorem go_remove {ns : List Int} {k0 : Int} {j0 : Nat} (h : ρ[i]? = some (.own b (ns.map PyData.int))) (hi : EvR c ti ρ (.int k0)) (hj : ns[j0]? = some k0) (hno : ∀ m : Nat, m < j0 → ns[m]? ≠ some k0) (k : Nx c B D (ρ.set i (.own b ((ns.eraseIdx j0).map PyData.int)))) :
    Go c B (tDrop (tBM K "list" rRemI (tVar i) (tCons ti tNil))) D ρ := fun O σ F H e S => by
  obtain ⟨o, ho, a, xs, eo, f0, h1, dd⟩ := S.get h
  subst eo
  refine ⟨_, ho, .inl ⟨rfl, _, .inl (.inl h1)⟩, hi O σ F H S _ fun v F1 H1 e1 g1 S1 d1 => ?_⟩
  cases d1
  have h2 := g1 _ _ h1
  have ee := dd.ints
  subst ee
  exact ⟨a, ns, k0, j0, rfl, rfl, h2, hj, hno, k O σ F1 _ (e.trans e1) (S1.write h ho h2 (DdAll.ofInts _))⟩
theorem q_remove {ns : List Int} {k0 : Int} {j0 : Nat} (h : ρ[i]? = some (.own b (ns.map PyData.int))) (hi : EvR c ti ρ (.int k0)) (hj : ns[j0]? = some k0) (hno : ∀ m : Nat, m < j0 → ns[m]? ≠ some k0) (k : Go c B tz D (ρ.set i (.own b ((ns.eraseIdx j0).map PyData.int)))) :
    Go c B (tSeq (tDrop (tBM K "list" rRemI (tVar i) (tCons ti tNil))) tz) D ρ := go_remove (D := { D with nx := tz D }) h hi hj hno k
/-- xs[i] = e -/
theorem go_set {k0 : Int} {j0 : Nat} (h : ρ[i]? = some (.own b ds)) (hd : Ev c b te ρ d) (hi : EvR c ti ρ (.int k0)) (hj : ixN ds.length k0 = some j0) (k : Nx c B D (ρ.set i (.own b (ds.set j0 d)))) :
    Go c B (tAsg te (gSub (tVar i) ti rSetL)) D ρ := fun O σ F H e S => by
  obtain ⟨o, ho, a, xs, eo, f0, h1, dd⟩ := S.get h
  subst eo
  refine hd O σ F H S _ fun v F1 H1 e1 g1 S1 d1 => ⟨_, ho, hi O σ F1 H1 S1 _ fun v2 F2 H2 e2 g2 S2 d2 => ?_⟩
  cases d2
  have h2 := g2 _ _ (g1 _ _ h1)
  exact ⟨a, xs, k0, j0, rfl, rfl, h2, by rw [dd.length]; exact hj, k O σ F2 _ (e.trans (e1.trans e2)) (S2.write h ho h2 (DdAll.set (d1.ex e2) j0 (dd.ex (e1.trans e2))))⟩
theorem q_set {k0 : Int} {j0 : Nat} (h : ρ[i]? = some (.own b ds)) (hd : Ev c b te ρ d) (hi : EvR c ti ρ (.int k0)) (hj : ixN ds.length k0 = some j0) (k : Go c B tz D (ρ.set i (.own b (ds.set j0 d)))) :
    Go c B (tSeq (tAsg te (gSub (tVar i) ti rSetL)) tz) D ρ := go_set (D := { D with nx := tz D }) h hd hi hj k
/-- xs[i] += e, ints -/
theorem go_setAug {f : Int → Int → Int} {k0 x y : Int} {j0 : Nat} (h : ρ[i]? = some (.own b ds)) (hi : EvR c ti ρ (.int k0)) (hj : ixN ds.length k0 = some j0) (hx : ds[j0]? = some (.int x)) (hd : EvR c te ρ (.int y)) (k : Nx c B D (ρ.set i (.own b (ds.set j0 (.int (f x y)))))) :
    Go c B (tAugS (tVar i) ti te (rIxL K) (ipI f) rSetL) D ρ := fun O σ F H e S => by
  obtain ⟨o, ho, a, xs, eo, f0, h1, dd⟩ := S.get h
  subst eo
  refine ⟨_, ho, hi O σ F H S _ fun v2 F2 H2 e2 g2 S2 d2 => ?_⟩
  cases d2
  have h2 := g2 _ _ h1
  have hj' : ixN xs.length k0 = some j0 := by rw [dd.length]; exact hj
  obtain ⟨vx, q1, q2⟩ := dd.get hx
  cases q2
  refine ⟨a, xs, k0, _, rfl, rfl, .inl (.inl h2), by unfold atI; rw [hj']; exact q1, hd O σ F2 H2 S2 _ fun v3 F3 H3 e3 g3 S3 d3 => ?_⟩
  cases d3
  have h3 := g3 _ _ h2
  exact ⟨x, y, rfl, rfl, a, xs, k0, j0, rfl, rfl, h3, hj', k O σ F3 _ (e.trans (e2.trans e3)) (S3.write h ho h3 (DdAll.set (.int _) j0 (dd.ex (e2.trans e3))))⟩
theorem q_setAug {f : Int → Int → Int} {k0 x y : Int} {j0 : Nat} (h : ρ[i]? = some (.own b ds)) (hi : EvR c ti ρ (.int k0)) (hj : ixN ds.length k0 = some j0) (hx : ds[j0]? = some (.int x)) (hd : EvR c te ρ (.int y)) (k : Go c B tz D (ρ.set i (.own b (ds.set j0 (.int (f x y)))))) :
    Go c B (tSeq (tAugS (tVar i) ti te (rIxL K) (ipI f) rSetL) tz) D ρ := go_setAug (D := { D with nx := tz D }) h hi hj hx hd k
/-! if -/
theorem go_if {x : Bool} (h : EvB c tt ρ x) (h1 : x = true → Go c B t D ρ) (h2 : x = false → Go c B u D ρ) : Go c B (tIfS tt t u) D ρ := fun O σ F H e S => h O σ F H S _ fun F1 H1 e1 g1 S1 => by
  cases x with
  | true => exact iteT (h1 rfl O σ F1 H1 (e.trans e1) S1)
  | false => exact iteF (h2 rfl O σ F1 H1 (e.trans e1) S1)
theorem q_if {x : Bool} (h : EvB c tt ρ x) (h1 : x = true → Go c B t { D with nx := tz D } ρ) (h2 : x = false → Go c B u { D with nx := tz D } ρ) : Go c B (tSeq (tIfS tt t u) tz) D ρ := go_if (D := { D with nx := tz D }) h h1 h2
/-- without else -/
theorem q_when {x : Bool} (h : EvB c tt ρ x) (h1 : x = true → Go c B t { D with nx := tz D } ρ) (h2 : x = false → Go c B tz D ρ) : Go c B (tSeq (tIfS tt t tNext) tz) D ρ := go_if (D := { D with nx := tz D }) h h1 h2
theorem go_when {x : Bool} (h : EvB c tt ρ x) (h1 : x = true → Go c B t D ρ) (h2 : x = false → Nx c B D ρ) : Go c B (tIfS tt t tNext) D ρ := go_if h h1 h2
/-- both ways meet in one of these kinds of state -/
theorem q_cut (I : Rho → Prop) (h : Go c B t { D with nx := Pst c B I } ρ) (k : ∀ ρ', I ρ' → Go c B tz D ρ') : Go c B (Evl.tCut t tz) D ρ := fun O σ F H e S =>
  ⟨Pst c B I, h O σ F H e S, fun σ' H' ⟨O', F', ρ', e', S', i'⟩ => k ρ' i' O' σ' F' H' e' S'⟩
theorem q_cut1 (ρ1 : Rho) (h : Go c B t { D with nx := Pst c B (fun r => Le ρ1 r) } ρ) (k : Go c B tz D ρ1) : Go c B (Evl.tCut t tz) D ρ := q_cut _ h fun ρ' l => go_weak l k
/-! loops -/
theorem go_for {α : Type} {xs : List α} {enc : α → PyData} {tb : TS} (h : Ev c b tl ρ (.list (xs.map enc))) (I : Nat → Rho → Prop) (h0 : I 0 ρ)
    (hs : ∀ (B' : Hp) (i : Nat) (x : α) (ρ1 : Rho), xs[i]? = some x → I i ρ1 → ∃ js ρ2, TgOk c b g js ρ1 (enc x) ρ2 ∧ Go c B' tb { D with nx := Pst c B' (I (i + 1)), ct := Pst c B' (I (i + 1)), bk := D.nx } ρ2)
    (hd : ∀ ρ1, I xs.length ρ1 → Nx c B D ρ1) : Go c B (tFor (iList K tl) g tb) D ρ := fun O σ F H e S => by
  refine h O σ F H S _ fun v F1 H1 e1 h1 S1 d1 => ?_
  cases d1 with
  | lst r dd =>
    rename_i a xv
    refine ⟨a, rfl, ⟨xv, dd_sq Cq.kl S1.ff r⟩, ?_⟩
    have lenx : xv.length = xs.length := by rw [dd.length, List.length_map]
    refine for_list (K := K) (a := a) (xs := xv) (fun i σ' H' => Pst c F1 (I i) σ' H') ⟨O, F1, ρ, Evl.Ex.refl _, S1, h0⟩ ?_ ?_ ?_
    · rintro i σ' H' hi ⟨O', F', ρ1, e', S', _⟩
      exact dd_sq Cq.kl (e'.trans S'.ff) r
    · rintro i x σ' H' hx ⟨O', F', ρ1, e', S', iv⟩
      obtain ⟨d, hd', dx⟩ := dd.getV hx
      rw [List.getElem?_map] at hd'
      cases hu : xs[i]? with
      | none => rw [hu] at hd'; cases hd'
      | some uu =>
        rw [hu] at hd'
        cases hd'
        obtain ⟨js, ρ2, tg, go⟩ := hs F1 i uu ρ1 hu iv
        exact tg O' σ' F' H' x S' (dx.ex e') _ fun σ2 _ _ S2 => go O' σ2 F' H' e' S2
    · rintro σ' H' ⟨O', F', ρ1, e', S', iv⟩
      rw [lenx] at iv
      exact hd ρ1 iv O' σ' F' H' (e.trans (e1.trans e')) S'
theorem q_for {α : Type} {xs : List α} {enc : α → PyData} {tb : TS} (h : Ev c b tl ρ (.list (xs.map enc))) (I : Nat → Rho → Prop) (h0 : I 0 ρ)
    (hs : ∀ (B' : Hp) (i : Nat) (x : α) (ρ1 : Rho), xs[i]? = some x → I i ρ1 → ∃ js ρ2, TgOk c b g js ρ1 (enc x) ρ2 ∧ Go c B' tb { D with nx := Pst c B' (I (i + 1)), ct := Pst c B' (I (i + 1)), bk := tz D } ρ2)
    (hd : ∀ ρ1, I xs.length ρ1 → Go c B tz D ρ1) : Go c B (tSeq (tFor (iList K tl) g tb) tz) D ρ := go_for (D := { D with nx := tz D }) h I h0 hs hd
theorem go_forR {ta : TA} {tb : TS} {n : Nat} (h : EvA c ta ρ [.int (n : Int)]) (hn : n ≤ 100000) (I : Nat → Rho → Prop) (h0 : I 0 ρ)
    (hs : ∀ (i : Nat) (ρ1 : Rho), i < n → I i ρ1 → ∃ js ρ2, TgOk c false g js ρ1 (.int (i : Int)) ρ2 ∧ Go c B tb { D with nx := Pst c B (I (i + 1)), ct := Pst c B (I (i + 1)), bk := D.nx } ρ2)
    (hd : ∀ ρ1, I n ρ1 → Nx c B D ρ1) : Go c B (tFor (iRng1 ta) g tb) D ρ := fun O σ F H e S => by
  refine h O σ F H S _ fun ws F1 H1 e1 h1 S1 d1 => ?_
  cases d1 with
  | cons q1 q2 =>
    cases q1; cases q2
    refine ⟨(n : Int), rfl, by omega, by omega, ?_⟩
    have en : ((n : Int)).toNat = n := by omega
    rw [en]
    refine for_range (lo := 0) (n := n) (fun i σ' H' => Pst c B (I i) σ' H') ⟨O, F1, ρ, e.trans e1, S1, h0⟩ ?_ ?_
    · rintro i σ' H' hi ⟨O', F', ρ1, e', S', iv⟩
      obtain ⟨js, ρ2, tg, go⟩ := hs i ρ1 hi iv
      rw [Int.zero_add]
      exact tg O' σ' F' H' _ S' (.int _) _ fun σ2 _ _ S2 => go O' σ2 F' H' e' S2
    · rintro σ' H' ⟨O', F', ρ1, e', S', iv⟩
      exact hd ρ1 iv O' σ' F' H' e' S'
theorem q_forR {ta : TA} {tb : TS} {n : Nat} (h : EvA c ta ρ [.int (n : Int)]) (hn : n ≤ 100000) (I : Nat → Rho → Prop) (h0 : I 0 ρ)
    (hs : ∀ (i : Nat) (ρ1 : Rho), i < n → I i ρ1 → ∃ js ρ2, TgOk c false g js ρ1 (.int (i : Int)) ρ2 ∧ Go c B tb { D with nx := Pst c B (I (i + 1)), ct := Pst c B (I (i + 1)), bk := tz D } ρ2)
    (hd : ∀ ρ1, I n ρ1 → Go c B tz D ρ1) : Go c B (tSeq (tFor (iRng1 ta) g tb) tz) D ρ := go_forR (D := { D with nx := tz D }) h hn I h0 hs hd
theorem go_forR2 {ta : TA} {tb : TS} {n : Nat} {lo hi : Int} (h : EvA c ta ρ [.int lo, .int hi]) (hb : -100000 ≤ lo ∧ lo ≤ 100000 ∧ -100000 ≤ hi ∧ hi ≤ 100000) (en : (hi - lo).toNat = n) (I : Nat → Rho → Prop) (h0 : I 0 ρ)
    (hs : ∀ (i : Nat) (ρ1 : Rho), i < n → I i ρ1 → ∃ js ρ2, TgOk c false g js ρ1 (.int (lo + (i : Int))) ρ2 ∧ Go c B tb { D with nx := Pst c B (I (i + 1)), ct := Pst c B (I (i + 1)), bk := D.nx } ρ2)
    (hd : ∀ ρ1, I n ρ1 → Nx c B D ρ1) : Go c B (tFor (iRng2 ta) g tb) D ρ := fun O σ F H e S => by
  refine h O σ F H S _ fun ws F1 H1 e1 h1 S1 d1 => ?_
  cases d1 with
  | cons q1 q2 =>
    cases q1
    cases q2 with
    | cons q3 q4 =>
      cases q3; cases q4
      refine ⟨lo, hi, rfl, by omega, ?_⟩
      rw [en]
      refine for_range (lo := lo) (n := n) (fun i σ' H' => Pst c B (I i) σ' H') ⟨O, F1, ρ, e.trans e1, S1, h0⟩ ?_ ?_
      · rintro i σ' H' hi ⟨O', F', ρ1, e', S', iv⟩
        obtain ⟨js, ρ2, tg, go⟩ := hs i ρ1 hi iv
        exact tg O' σ' F' H' _ S' (.int _) _ fun σ2 _ _ S2 => go O' σ2 F' H' e' S2
      · rintro σ' H' ⟨O', F', ρ1, e', S', iv⟩
        exact hd ρ1 iv O' σ' F' H' e' S'
theorem q_forR2 {ta : TA} {tb : TS} {n : Nat} {lo hi : Int} (h : EvA c ta ρ [.int lo, .int hi]) (hb : -100000 ≤ lo ∧ lo ≤ 100000 ∧ -100000 ≤ hi ∧ hi ≤ 100000) (en : (hi - lo).toNat = n) (I : Nat → Rho → Prop) (h0 : I 0 ρ)
    (hs : ∀ (i : Nat) (ρ1 : Rho), i < n → I i ρ1 → ∃ js ρ2, TgOk c false g js ρ1 (.int (lo + (i : Int))) ρ2 ∧ Go c B tb { D with nx := Pst c B (I (i + 1)), ct := Pst c B (I (i + 1)), bk := tz D } ρ2)
    (hd : ∀ ρ1, I n ρ1 → Go c B tz D ρ1) : Go c B (tSeq (tFor (iRng2 ta) g tb) tz) D ρ := go_forR2 (D := { D with nx := tz D }) h hb en I h0 hs hd
theorem go_while {tb : TS} (I : Nat → Rho → Prop) (m0 : Nat) (h0 : I m0 ρ)
    (hs : ∀ (m : Nat) (ρ1 : Rho), I m ρ1 → ∃ x, EvB c tt ρ1 x ∧ (x = true → Go c B tb { D with nx := Pst c B (fun r => ∃ m', m' < m ∧ I m' r), ct := Pst c B (fun r => ∃ m', m' < m ∧ I m' r), bk := D.nx } ρ1) ∧ (x = false → Nx c B D ρ1)) :
    Go c B (tWhile tt tb) D ρ := fun O σ F H e S => by
  refine ⟨fun m σ' H' => Pst c B (I m) σ' H', ⟨m0, O, F, ρ, e, S, h0⟩, ?_⟩
  rintro m σ' H' ⟨O', F', ρ1, e', S', iv⟩
  obtain ⟨x, eb, k1, k2⟩ := hs m ρ1 iv
  refine eb O' σ' F' H' S' _ fun F1 H1 e1 g1 S1 => ?_
  cases x with
  | true =>
    refine iteT ⟨Pst c B (fun r => ∃ m', m' < m ∧ I m' r), ?_, k1 rfl O' σ' F1 H1 (e'.trans e1) S1⟩
    rintro σ2 H2 ⟨O2, F2, ρ2, e2, S2, m', hm, iv2⟩
    exact ⟨m', hm, O2, F2, ρ2, e2, S2, iv2⟩
  | false => exact iteF (k2 rfl O' σ' F1 H1 (e'.trans e1) S1)
theorem q_while {tb : TS} (I : Nat → Rho → Prop) (m0 : Nat) (h0 : I m0 ρ)
    (hs : ∀ (m : Nat) (ρ1 : Rho), I m ρ1 → ∃ x, EvB c tt ρ1 x ∧ (x = true → Go c B tb { D with nx := Pst c B (fun r => ∃ m', m' < m ∧ I m' r), ct := Pst c B (fun r => ∃ m', m' < m ∧ I m' r), bk := tz D } ρ1) ∧ (x = false → Go c B tz D ρ1)) :
    Go c B (tSeq (tWhile tt tb) tz) D ρ := go_while (D := { D with nx := tz D }) I m0 h0 hs
/-! what leaves -/
theorem z_asg (h : EvZ c te ρ) : Go c B (tAsg te g) D ρ := fun O σ F H e S => h O σ F H S _
theorem z_drop (h : EvZ c te ρ) : Go c B (tDrop te) D ρ := fun O σ F H e S => h O σ F H S _
theorem z_ret (h : EvZ c te ρ) : Go c B (tRet te) D ρ := fun O σ F H e S => h O σ F H S _
theorem z_seq (h : ∀ D, Go c B t D ρ) : Go c B (tSeq t u) D ρ := h _
theorem zo_l {r : R2} (h : EvZ c te ρ) : EvZ c (tOp r te ta) ρ := fun O σ F H S Q => h O σ F H S _
theorem zo_r {r : R2} (h1 : Ev c b ta ρ d) (h : EvZ c te ρ) : EvZ c (tOp r ta te) ρ := fun O σ F H S Q => h1 O σ F H S _ fun v F1 H1 _ _ S1 _ => h O σ F1 H1 S1 _
theorem zb_test (h : EvZ c te ρ) : ∀ (O : Addr → Prop) (σ : St) (F H : Hp), Sim c O ρ σ F H → ∀ Q : Bool → Hp → Prop, tTest te σ H Q := fun O σ F H S Q => h O σ F H S _
end
/-! ### defs: promises -/
/-- a def that hands back data made anew: r of ds, where R ds r -/
def spF (K : PySem.W.Frag) (R : List PyData → PyData → Prop) : Sp := fun vs H Q _ => ∃ ds, DdAll (T1 K) H vs ds ∧ ∃ r, R ds r ∧ ∀ v H', Ex H H' → Dd (only fun a => H a = none) H' v r → Q v H'
/-- .. or refuses with the error of the class at C -/
def spX (K : PySem.W.Frag) (R : List PyData → PyData → Prop) (X : List PyData → Addr → Prop) : Sp := fun vs H Q E => ∃ ds, DdAll (T1 K) H vs ds ∧ ((∃ r, R ds r ∧ ∀ v H', Ex H H' → Dd (only fun a => H a = none) H' v r → Q v H') ∨ (∃ C, X ds C ∧ ∀ H', Ex H H' → E (.ref C) none H'))
/-- a list that the caller may change -/
def spL (K : PySem.W.Frag) (R : List PyData → List PyData → Prop) : Sp := fun vs H Q _ => ∃ ds, DdAll (T1 K) H vs ds ∧ ∃ r, R ds r ∧ ∀ p xs H', Ex H H' → H p = none → H' p = some (.lst xs) → DdAll (only fun a => H a = none ∧ a ≠ p) H' xs r → Q (.ref p) H'
section
variable {K : PySem.W.Frag} {c : Cq K} {b b' : Bool} {ρ : Rho} {ta : TA} {ds : List PyData} {r : PyData} {C : Addr} {R : List PyData → PyData → Prop} {RL : List PyData → List PyData → Prop} {Xr : List PyData → Addr → Prop} {E : XK}
theorem ev_call (h : EvA c ta ρ ds) (hR : R ds r) : Ev c b (tCall (spF K R) [] E ta) ρ r := fun O σ F H S Q k => h O σ F H S _ fun vs F1 H1 e1 h1 S1 d1 => by
  refine ⟨ds, by rw [List.append_nil]; exact d1, r, hR, fun v H' e2 dd => ?_⟩
  exact k v _ H' (e1.trans (addF_ex S1.ff)) (h1.trans e2) (S1.add e2) (dd.add S1 b)
theorem ev_callX (h : EvA c ta ρ ds) (hR : R ds r) : Ev c b (tCall (spX K R Xr) [] E ta) ρ r := fun O σ F H S Q k => h O σ F H S _ fun vs F1 H1 e1 h1 S1 d1 => by
  refine ⟨ds, by rw [List.append_nil]; exact d1, .inl ⟨r, hR, fun v H' e2 dd => ?_⟩⟩
  exact k v _ H' (e1.trans (addF_ex S1.ff)) (h1.trans e2) (S1.add e2) (dd.add S1 b)
theorem ez_callX (h : EvA c ta ρ ds) (hX : Xr ds C) (hE : ∀ H', Ex c.H0 H' → E (.ref C) none H') : EvZ c (tCall (spX K R Xr) [] E ta) ρ := fun O σ F H S Q => h O σ F H S _ fun vs F1 H1 e1 h1 S1 d1 =>
  ⟨ds, by rw [List.append_nil]; exact d1,   .inr ⟨C, hX, fun H' e2 => hE H' (S1.bb.trans e2)⟩⟩
theorem el_call {rl : List PyData} (h : EvA c ta ρ ds) (hR : RL ds rl) : EvL c b (tCall (spL K RL) [] E ta) ρ rl := fun O σ F H S Q k => h O σ F H S _ fun vs F1 H1 e1 h1 S1 d1 => by
  refine ⟨ds, by rw [List.append_nil]; exact d1, rl, hR, fun p xs H' e2 hp at_ dd => ?_⟩
  -- all that is new but the list itself
  have f1 : F1 p = none := S1.fresh hp
  let F2 : Hp := fun a => if a = p then none else addF F1 H1 H' a
  have ef : Ex F1 F2 := fun a o q => by
    show (if a = p then none else addF F1 H1 H' a) = some o
    rw [if_neg (fun z => by rw [z, f1] at q; cases q)]
    exact addF_ex S1.ff a o q
  have ff : Ex F2 H' := fun a o q => by
    have q' : (if a = p then none else addF F1 H1 H' a) = some o := q
    split at q'
    · cases q'
    · exact addF_sub S1.ff e2 a o q'
  have S2 : Sim c O ρ σ F2 H' := S1.grow ef e2 (fun a hn f0 => by
    show (if a = p then none else addF F1 H1 H' a) = none
    split
    · rfl
    · rw [addF_old hn]; exact f0) ff
  refine k p xs F2 H' (e1.trans ef) (h1.trans e2) S2 (Evl.fresh_back h1 hp) (if_pos rfl) at_ (S.notOwn (Evl.fresh_back h1 hp)) ?_
  refine dd.mono (fun a u (pa : H1 a = none ∧ a ≠ p) ra => ⟨Cq.any (Evl.fresh_back S1.bb pa.1), ?_⟩) fun _ _ (h : False) => h.elim
  have z : F2 a = addF F1 H1 H' a := if_neg pa.2
  exact z.trans ((addF_new pa.1).trans ra)
/-! entering a def's body -/
theorem enter_sim {N : List Str} {vs : List V} {H : Hp} (d : DdAll (T1 K) H vs ds) (hl : vs.length ≤ N.length) : Sim (K := K) ⟨H, fun a => H a = none, fun _ h => h⟩ (fun _ => False) (ds.map (Sl.val false) ++ List.replicate (N.length - ds.length) Sl.no) (L2.start N vs) H H := by
  have l := d.length
  refine ⟨Evl.Ex.refl _, Evl.Ex.refl _, fun _ h => h.elim, by simp [L2.start, l], fun i s o h1 h2 => ?_, fun i j s t o o' a h1 h2 h3 h4 h5 => ?_⟩
  · by_cases hi : i < ds.length
    · rw [List.getElem?_append_left (by rw [List.length_map]; exact hi), List.getElem?_map] at h1
      unfold L2.start at h2
      rw [List.getElem?_append_left (by rw [List.length_map]; omega), List.getElem?_map] at h2
      cases e1 : ds[i]? with
      | none => rw [e1] at h1; cases h1
      | some d0 =>
        rw [e1] at h1
        cases h1
        obtain ⟨v, e2, dd⟩ := d.get e1
        rw [e2] at h2
        cases h2
        exact ⟨v, rfl, dd⟩
    · rw [List.getElem?_append_right (by rw [List.length_map]; omega), List.getElem?_replicate] at h1
      split at h1
      · cases h1; trivial
      · cases h1
  · exfalso
    by_cases hi : i < ds.length
    · rw [List.getElem?_append_left (by rw [List.length_map]; exact hi), List.getElem?_map] at h1
      cases e1 : ds[i]? with
      | none => rw [e1] at h1; cases h1
      | some d0 => rw [e1] at h1; cases h1; exact h5
    · rw [List.getElem?_append_right (by rw [List.length_map]; omega), List.getElem?_replicate] at h1
      split at h1
      · cases h1; exact h5
      · cases h1
theorem enterF {N : List Str} {t : TS} {vs : List V} {H : Hp} {Q : VK} (h : spF K R vs H Q E) (hN : ∀ ds r, R ds r → ds.length ≤ N.length)
    (body : ∀ (c : Cq K) ds r, R ds r → Rt c Q r → Go c c.H0 t { nx := fun _ H' => Q .non H', rt := Q } (ds.map (Sl.val false) ++ List.replicate (N.length - ds.length) Sl.no)) : t { nx := fun _ H' => Q .non H', rt := Q } (L2.start N vs) H := by
  obtain ⟨ds, hd, r, hR, k⟩ := h
  exact body ⟨H, fun a => H a = none, fun _ h => h⟩ ds r hR k _ _ H H (Evl.Ex.refl _) (enter_sim hd (by rw [hd.length]; exact hN _ _ hR))
theorem enterX {N : List Str} {t : TS} {vs : List V} {H : Hp} {Q : VK} (h : spX K R Xr vs H Q E) (hN : ∀ ds r, R ds r → ds.length ≤ N.length) (hN2 : ∀ ds C, Xr ds C → ds.length ≤ N.length)
    (body : ∀ (c : Cq K) ds r, R ds r → Rt c Q r → Go c c.H0 t { nx := fun _ H' => Q .non H', rt := Q } (ds.map (Sl.val false) ++ List.replicate (N.length - ds.length) Sl.no))
    (bodyX : ∀ (c : Cq K) ds C, Xr ds C → (∀ H', Ex c.H0 H' → E (.ref C) none H') → Go c c.H0 t { nx := fun _ H' => Q .non H', rt := Q } (ds.map (Sl.val false) ++ List.replicate (N.length - ds.length) Sl.no)) : t { nx := fun _ H' => Q .non H', rt := Q } (L2.start N vs) H := by
  obtain ⟨ds, hd, h⟩ := h
  rcases h with ⟨r, hR, k⟩ | ⟨C, hX, k⟩
  · exact body ⟨H, fun a => H a = none, fun _ h => h⟩ ds r hR k _ _ H H (Evl.Ex.refl _) (enter_sim hd (by rw [hd.length]; exact hN _ _ hR))
  · exact bodyX ⟨H, fun a => H a = none, fun _ h => h⟩ ds C hX k _ _ H H (Evl.Ex.refl _) (enter_sim hd (by rw [hd.length]; exact hN2 _ _ hX))
/-- what a def that hands back a list of its own is asked for -/
def RtL {K : PySem.W.Frag} (c : Cq K) (Q : VK) (rl : List PyData) : Prop := ∀ p xs H', Ex c.H0 H' → c.H0 p = none → H' p = some (.lst xs) → DdAll (only fun a => c.H0 a = none ∧ a ≠ p) H' xs rl → Q (.ref p) H'
theorem enterL {N : List Str} {t : TS} {vs : List V} {H : Hp} {Q : VK} (h : spL K RL vs H Q E) (hN : ∀ ds r, RL ds r → ds.length ≤ N.length)
    (body : ∀ (c : Cq K) ds r, (∀ a, c.NW a → c.H0 a = none) → RL ds r → RtL c Q r → Go c c.H0 t { nx := fun _ H' => Q .non H', rt := Q } (ds.map (Sl.val false) ++ List.replicate (N.length - ds.length) Sl.no)) : t { nx := fun _ H' => Q .non H', rt := Q } (L2.start N vs) H := by
  obtain ⟨ds, hd, r, hR, k⟩ := h
  exact body ⟨H, fun a => H a = none, fun _ h => h⟩ ds r (fun _ h => h) hR k _ _ H H (Evl.Ex.refl _) (enter_sim hd (by rw [hd.length]; exact hN _ _ hR))
end
section
variable {K : PySem.W.Frag} {c : Cq K} {B : Hp} {b : Bool} {ρ : Rho} {D : Ends} {te : TE} {ds : List PyData} {i : Nat}
/-- an own list handed back as the caller's own -/
theorem retL_sim {O : Addr → Prop} {σ : St} {F H : Hp} {p : Addr} {xs : List V} {Q : VK} (S : Sim c O ρ σ F H) (hc : ∀ a, c.NW a → c.H0 a = none) (fp : F p = none) (at_ : H p = some (.lst xs)) (dd : DdAll (c.pw true) F xs ds) (k : RtL c Q ds) : Q (.ref p) H :=
  k p xs H S.bb (Evl.fresh_back S.base fp) at_ (dd.mono (fun a u pa ra => show (c.H0 a = none ∧ a ≠ p) ∧ H a = some u from ⟨⟨hc a pa, fun z => by
    subst z
    rw [fp] at ra; cases ra⟩, S.ff a u ra⟩) fun _ _ (h : False) => h.elim)
theorem go_retOL (hc : ∀ a, c.NW a → c.H0 a = none) (h : ρ[i]? = some (.own true ds)) (k : RtL c D.rt ds) : Go c B (tRet (tVar i)) D ρ := fun O σ F H e S => by
  obtain ⟨o, ho, a, xs, eo, f0, h1, dd⟩ := S.get h
  subst eo
  exact ⟨_, ho, retL_sim S hc f0 h1 dd k⟩
theorem go_retEL (hc : ∀ a, c.NW a → c.H0 a = none) (h : EvL c true te ρ ds) (k : RtL c D.rt ds) : Go c B (tRet te) D ρ := fun O σ F H e S => h O σ F H S _ fun p xs F1 H1 e1 h1 S1 hp fp at_ no dd => retL_sim S1 hc fp at_ dd k
/-- a list def called where any data will do -/
theorem RtL.rt (k : RtL c D.rt ds) : True := trivial
end
end DL

end
section
set_option maxRecDepth 100000
set_option maxHeartbeats 2000000
/-! rules that the hand layer lacks -/
namespace DL
open PySem PySem.Spec PyProof.Rows L2
section
variable {X : Cx}
theorem hu65 {k : Nat} {A : Around} (r : Room k A) : A.units + 65 < cLine := by have := r.un; omega
/-- a list to be read, as the machine holds it -/
theorem rd_lst {pins : List (Addr × Obj)} {σ : L2.St} {H : Hp} {s : Shared} {l : Addr} {xs : List V} (I : Inv X pins σ H s) (r : Rd H l (.lst xs)) : xs.length ≤ sizeLine ∧ ∃ (its : List Value) (n : Nat), Vals xs its ∧ xs.length = its.length ∧ s.heap.get? l = some { cls := .type "list", data := .seq its.toArray n } := by
  obtain ⟨hz, its, n, r, e⟩ := r.ok I.hok
  exact ⟨hz, its, n, r, r.length, e⟩
def rCatR : R2 := fun x y H Q => ∃ l b xs zs, x = .ref l ∧ y = .ref b ∧ Rd H l (.lst xs) ∧ Rd H b (.lst zs) ∧ xs.length + zs.length ≤ sizeLine ∧ ∀ p, H p = none → Q (.ref p) (upd H p (.lst (xs ++ zs)))
theorem op_catR : OpR X (binaryOp .Add) rCatR := by
  intro pins s σ H x y v u Q I rx ry h
  obtain ⟨l, b, xs, zs, rfl, rfl, hH, hB, hz, q⟩ := h
  cases rx
  cases ry
  obtain ⟨z, its, n, r, hl, e⟩ := rd_lst I hH
  obtain ⟨z2, its2, n2, r2, hl2, e2⟩ := rd_lst I hB
  refine PySem.P.add_list e e2 ?_ (by rw [List.size_toArray, List.size_toArray]; omega)
  have ea : its.toArray ++ its2.toArray = (its ++ its2).toArray := by simp
  rw [ea]
  exact ⟨.ref _, _, I.lnew (t' := s.toks) (r.append r2) (by rw [List.length_append]; omega), rfl, q _ I.fresh⟩
theorem pget_list : PGet X (rIxL X.K) := by
  intro pins s σ H x y v u Q I rx ry h
  obtain ⟨p, xs, i, z, rfl, rfl, hq, he, q⟩ := h
  cases rx
  obtain ⟨t, rfl⟩ := ry
  obtain ⟨its, r, pl, hz⟩ := I.list hq
  obtain ⟨j, h1, h2, h3, h4, h5⟩ := atI_get he
  obtain ⟨w, ew, rw'⟩ := r.get h2
  have hl := r.length
  have hn := line63
  have fin : EP X pins σ Q w s := ⟨z, H, I, rw', q⟩
  by_cases h0 : 0 ≤ i
  · have hj : i.toNat = j := by
      rw [seqIndex_of h0 h5] at h1
      exact Option.some.inj h1
    exact wpAny_getItem_list (x := w) pl.isList h0 (by omega) (by rw [hj]; simpa using ew) fin
  · have hj : (i + (its.toArray.size : Int)).toNat = j := by
      rw [seqIndex_neg (by omega) h4] at h1
      rw [List.size_toArray, ← hl]
      exact Option.some.inj h1
    exact wpAny_getItem_list_neg (x := w) pl.isList (by omega) (by rw [List.size_toArray] <;> omega) (by omega) (by rw [hj]; simpa using ew) fin
/-- * of factors of together less than a hundred million bits -/
def CMulB (i j : Int) : Prop := i.natAbs.log2 + j.natAbs.log2 < 100000000
theorem CMulB.ok {i j : Int} (h : CMulB i j) : IntMulOk i j := by
  have b : ∀ x : Int, Builtin.Int.intBits x ≤ x.natAbs.log2 + 1 := fun x => by
    unfold Builtin.Int.intBits
    split <;> omega
  have h1 := b i
  have h2 := b j
  have h3 : i.natAbs.log2 + j.natAbs.log2 < 100000000 := h
  have e : bitsLine = 134217728 := by decide
  unfold IntMulOk
  intro z
  rw [Bool.and_eq_true] at z
  have z2 := z.2
  unfold Builtin.Int.intTooBig at z2
  have z3 := of_decide_eq_true z2
  rw [e] at z3
  omega
theorem op_mulB : OpR X (binaryOp .Mult) (rI CMulB fun i j => .int (i * j)) := opI fun _ _ _ _ _ _ _ hc q => mul_int q hc.ok
/-- max(xs, default=d), ints -/
def rMaxD (K : PySem.W.Frag) : List V → List V → Hp → VK → Prop := fun vs zs H Q => ∃ (a : Addr) (ns : List Int) (d : V), vs = [V.ref a] ∧ zs = [d] ∧ SqL K H a (ns.map V.int) ∧ (ns = [] → Q d H) ∧ ∀ m, m ∈ ns → (∀ y, y ∈ ns → y ≤ m) → Q (.int m) H
def rMinD (K : PySem.W.Frag) : List V → List V → Hp → VK → Prop := fun vs zs H Q => ∃ (a : Addr) (ns : List Int) (d : V), vs = [V.ref a] ∧ zs = [d] ∧ SqL K H a (ns.map V.int) ∧ (ns = [] → Q d H) ∧ ∀ m, m ∈ ns → (∀ y, y ∈ ns → m ≤ y) → Q (.int m) H
theorem moved_kept {s s' : Shared} {I : Addr} {h0 : Heap} {G : Array GenState → Array GenState → Prop} (m : Moved [I] G s s') (hI : h0.get? I = none) (k : ∀ b o, h0.get? b = some o → s.heap.get? b = some o) : ∀ b o, h0.get? b = some o → s'.heap.get? b = some o := fun b o e =>
  m.heap b o (fun z => by
    rw [List.mem_singleton] at z
    rw [z, hI] at e; cases e) (k b o e)
theorem cr_maxD (hc : X.calm = true) : CallRK X (.builtin "max") ["default"] (rMaxD X.K) := by
  intro pins s σ H vs zs us ws Q I r rz h
  obtain ⟨a, ns, d, rfl, rfl, hs, h0, h1⟩ := h
  obtain ⟨its, rv, hl, _⟩ := I.list hs
  rw [Vals.ref1 r]
  obtain ⟨dv, rfl, rd⟩ := rz.one
  show wpAny _ _ (call (.builtin "max") [.ref a] [(Str.ofString "default", dv)]) _ _ _
  obtain ⟨xs, e⟩ := rv.ints.allInts.items
  have hn : numsOf (intItems xs).toList = ns := by rw [← e]; exact rv.ints.numsOf
  rw [nums_intItems] at hn
  subst hn
  have hl' : s.heap.IsList a (intItems xs) := by rw [← e]; exact hl.isList
  refine call_max_walkD (iter_intList hl' fun s₂ es st hfp hlI => ?_)
  subst es
  have hI0 : s.heap.get? s.heap.objs.size = none := Heap.get?_none_of_le (Nat.le_refl _)
  have k0 : ∀ b o, s.heap.get? b = some o → (s.heap.push { cls := .type "list_iterator", data := .fields #[.ref a, .int 0 0] }).get? b = some o := fun b o q => Heap.get?_push_of_some _ q
  have sz : (intItems xs).size = xs.size := by simp [intItems]
  refine ⟨_, _, _, _, _, _, _, s.heap, (fun i j => decide (numAt xs i > numAt xs j)), rfl, (Walks.list (A := X.A.in1) (I.ok.hd hc) _ a hlI (intItems xs)).toS, st, hfp, fun b o q z => ?_, k0, fun hz s' m => ?_, fun hz => ⟨fun i j vi vj s' Q' E' _ hi hj hq => CmpOf.ints_gt (numAt xs) (fun _ _ => intItems_at) i j vi vj s' Q' E' hi hj hq, fun v s' hP m => ?_⟩⟩
  · rw [List.mem_singleton] at z
    rw [z, hI0] at q; cases q
  · obtain ⟨hp, g, dr, tk, os⟩ := s'
    obtain ⟨h', g', d', o', t'⟩ := m
    have g2 : g = s.gens := g'
    have d2 : dr = s.drawn := d'
    have o2 : os = s.os := o'
    subst g2 d2 o2
    have hk := moved_kept (G := fun a b => b = a) (s' := ⟨hp, s.gens, s.drawn, tk, s.os⟩) ⟨h', rfl, rfl, rfl, t'⟩ hI0 k0
    refine ⟨d, H, I.kept hk, rd, h0 ?_⟩
    have z : xs.toList = [] := by
      have q : xs.size = 0 := by omega
      simpa using q
    simp [z]
  · obtain ⟨hp, g, dr, tk, os⟩ := s'
    obtain ⟨h', g', d', o', t'⟩ := m
    have g2 : g = s.gens := g'
    have d2 : dr = s.drawn := d'
    have o2 : os = s.os := o'
    subst g2 d2 o2
    have hk := moved_kept (G := fun a b => b = a) (s' := ⟨hp, s.gens, s.drawn, tk, s.os⟩) ⟨h', rfl, rfl, rfl, t'⟩ hI0 k0
    obtain ⟨t, rfl⟩ := intItems_at hP
    obtain ⟨q1, q2⟩ := argBest_gt (numAt xs) ((intItems xs).size - 1)
    refine ⟨.int _, H, I.kept hk, ⟨_, rfl⟩, h1 _ ?_ fun y hy => ?_⟩
    · rw [numAt_eq]; exact PySem.getD_mem (by rw [List.length_map, Array.length_toList]; omega)
    · obtain ⟨j, hj, rfl⟩ := mem_getD hy
      rw [List.length_map, Array.length_toList] at hj
      rw [← numAt_eq]; exact q2 j (by omega)
theorem cr_minD (hc : X.calm = true) : CallRK X (.builtin "min") ["default"] (rMinD X.K) := by
  intro pins s σ H vs zs us ws Q I r rz h
  obtain ⟨a, ns, d, rfl, rfl, hs, h0, h1⟩ := h
  obtain ⟨its, rv, hl, _⟩ := I.list hs
  rw [Vals.ref1 r]
  obtain ⟨dv, rfl, rd⟩ := rz.one
  show wpAny _ _ (call (.builtin "min") [.ref a] [(Str.ofString "default", dv)]) _ _ _
  obtain ⟨xs, e⟩ := rv.ints.allInts.items
  have hn : numsOf (intItems xs).toList = ns := by rw [← e]; exact rv.ints.numsOf
  rw [nums_intItems] at hn
  subst hn
  have hl' : s.heap.IsList a (intItems xs) := by rw [← e]; exact hl.isList
  refine call_min_walkD (iter_intList hl' fun s₂ es st hfp hlI => ?_)
  subst es
  have hI0 : s.heap.get? s.heap.objs.size = none := Heap.get?_none_of_le (Nat.le_refl _)
  have k0 : ∀ b o, s.heap.get? b = some o → (s.heap.push { cls := .type "list_iterator", data := .fields #[.ref a, .int 0 0] }).get? b = some o := fun b o q => Heap.get?_push_of_some _ q
  have sz : (intItems xs).size = xs.size := by simp [intItems]
  refine ⟨_, _, _, _, _, _, _, s.heap, (fun i j => decide (numAt xs i < numAt xs j)), rfl, (Walks.list (A := X.A.in1) (I.ok.hd hc) _ a hlI (intItems xs)).toS, st, hfp, fun b o q z => ?_, k0, fun hz s' m => ?_, fun hz => ⟨fun i j vi vj s' Q' E' _ hi hj hq => CmpOf.ints_lt (numAt xs) (fun _ _ => intItems_at) i j vi vj s' Q' E' hi hj hq, fun v s' hP m => ?_⟩⟩
  · rw [List.mem_singleton] at z
    rw [z, hI0] at q; cases q
  · obtain ⟨hp, g, dr, tk, os⟩ := s'
    obtain ⟨h', g', d', o', t'⟩ := m
    have g2 : g = s.gens := g'
    have d2 : dr = s.drawn := d'
    have o2 : os = s.os := o'
    subst g2 d2 o2
    have hk := moved_kept (G := fun a b => b = a) (s' := ⟨hp, s.gens, s.drawn, tk, s.os⟩) ⟨h', rfl, rfl, rfl, t'⟩ hI0 k0
    refine ⟨d, H, I.kept hk, rd, h0 ?_⟩
    have z : xs.toList = [] := by
      have q : xs.size = 0 := by omega
      simpa using q
    simp [z]
  · obtain ⟨hp, g, dr, tk, os⟩ := s'
    obtain ⟨h', g', d', o', t'⟩ := m
    have g2 : g = s.gens := g'
    have d2 : dr = s.drawn := d'
    have o2 : os = s.os := o'
    subst g2 d2 o2
    have hk := moved_kept (G := fun a b => b = a) (s' := ⟨hp, s.gens, s.drawn, tk, s.os⟩) ⟨h', rfl, rfl, rfl, t'⟩ hI0 k0
    obtain ⟨t, rfl⟩ := intItems_at hP
    obtain ⟨q1, q2⟩ := argBest_lt (numAt xs) ((intItems xs).size - 1)
    refine ⟨.int _, H, I.kept hk, ⟨_, rfl⟩, h1 _ ?_ fun y hy => ?_⟩
    · rw [numAt_eq]; exact PySem.getD_mem (by rw [List.length_map, Array.length_toList]; omega)
    · obtain ⟨j, hj, rfl⟩ := mem_getD hy
      rw [List.length_map, Array.length_toList] at hj
      rw [← numAt_eq]; exact q2 j (by omega)
def rRepR : R2 := fun x y H Q => ∃ l k xs, x = .ref l ∧ y = .int k ∧ Rd H l (.lst xs) ∧ -(2 ^ 63) ≤ k ∧ k < 2 ^ 63 ∧ xs.length * k.toNat ≤ sizeLine ∧
  ∀ p, H p = none → Q (.ref p) (upd H p (.lst (List.replicate k.toNat xs).flatten))
theorem op_repR : OpR X (binaryOp .Mult) rRepR := by
  intro pins s σ H x y v u Q I rx ry h
  obtain ⟨l, k, xs, rfl, rfl, hH, h1, h2, hz, q⟩ := h
  cases rx
  obtain ⟨t, rfl⟩ := ry
  obtain ⟨z, its, n, r, hl, e⟩ := rd_lst I hH
  have hlen : its.toArray.size * k.toNat ≤ sizeLine := by rw [List.size_toArray, ← hl]; exact hz
  have hcap : ¬ its.toArray.size * k.toNat > (2 ^ 63 - 1) / 8 := by
    have : (sizeLine : Nat) ≤ (2 ^ 63 - 1) / 8 := by decide
    omega
  have hfit : ¬ (!Builtin.List.listFitsIndex k) = true := by
    rw [fitsIndex_both h1 h2]
    exact Bool.false_ne_true
  have hlong : ¬ Builtin.List.listTooLong (its.toArray.size * k.toNat) = true := by
    rw [notLongL hlen]
    exact Bool.false_ne_true
  have hnew : List.foldl (fun x1 x2 => x1 ++ x2) #[] (List.replicate (if its.toArray.isEmpty = true then 0 else k.toNat) its.toArray) = (List.replicate k.toNat its).flatten.toArray := by
    have f0 : ∀ m : Nat, List.foldl (fun x1 x2 => x1 ++ x2) #[] (List.replicate m its.toArray) = (List.replicate m its).flatten.toArray := fun m => by
      have := foldl_rep its m []
      rw [List.nil_append] at this
      exact this
    rw [f0]
    cases its with
    | nil => simp
    | cons a r' => rw [if_neg (by simp)]
  refine wpAny_binaryOp_repeat_ref (T := "list") (U := "int") (by decide) ⟨_, e, rfl⟩ (fun s' => typeIs_int s' k t) noFill_list_mul F.fills_int_mul F.slot_int_rmul repeat_list F.slot_int_index.lookup
    (call_meets F.slot_int_rmul (typeIs_int s k t) F.entry_int_rmul (F.args_int_rmul_2 _ _) (int___rmul___int_list k t l its.toArray n)
      ⟨e, rfl, ⟨_, e, rfl⟩, call_meets F.slot_list_mul ⟨_, e, rfl⟩ F.entry_list_mul (F.args_list_mul_2 _ _) (AutoListH.list___mul___list_int_3 l its.toArray n k t hfit hcap hlong) ⟨e, ?_⟩⟩)
  rw [hnew]
  exact ⟨.ref _, _, I.lnew (t' := s.toks) (r.rep k.toNat) (by rw [PyProof.Rows.lm_len_rep_flat, Nat.mul_comm]; exact hz), rfl, q _ I.fresh⟩
end
/-! ### the defs of a program: where they stand, what they promise -/
structure Dfn (K : PySem.W.Frag) (mg : Str → Option Value) (x : Str) (st : Stmt) (ps : List Str) : Prop where
  ex : ∃ (f : Addr) (fd : FuncData), Fun K x x st f fd ∧ mg x = some (.ref f) ∧ Binds K fd ps []
structure Cl (P : Program) (w : World) (K : PySem.W.Frag) (mg : Str → Option Value) (base : Heap) (CX : CXT) (k : Nat) (x : Str) (sp : Sp) : Prop where
  ex : ∃ (f : Addr) (fd : FuncData) (ps : List Str), FnOk P w K mg base CX k f fd ps sp ∧ mg x = some (.ref f) ∧ PySem.W.keepIn K (.ref f) = true ∧ Binds K fd ps []
section
variable {X : Cx}
theorem pe_cl {CX : CXT} {k : Nat} {x : Str} {sp : Sp} {E : XK} {p pos : Pos} {e : Expr} {es : List Expr} {t : TA} (c : Cl X.prog X.w X.K X.mg X.base CX k x sp) (hr : Room k X.A) (hg : Gl X x) (hx : Passes CX X E) (ha : PA X (e :: es) t)
    (hdb : (x == ("__debug__" : Str)) = false := by decide) (he : starEach (e :: es) X.env = (false, eval e X.env) :: starEach es X.env := by rfl) (hpl : (backTo pos (starEach es X.env)).any (·.1) = false := by rfl) :
    PE X (.Call (.Name x p) (e :: es) [] pos) (tCall sp [] E t) := by
  obtain ⟨f, fd, ps, F, hm, kp, b⟩ := c.ex
  exact pe_call F hr hg hm kp b .nil hx ha hdb he hpl
end
section
variable {P : Program} {w : World} {K : PySem.W.Frag} {mg : Str → Option Value} {base : Heap} {x : Str} {st : Stmt} {N ps : List Str} {k : Nat} {C : Addr}
theorem fn_F {R : List PyData → PyData → Prop} {f : Addr} {fd : FuncData} (F : Fun K x x st f fd) (S : FnScope N ps (defScope st)) (hlen : ∀ ds r, R ds r → ds.length = ps.length)
    (hbody : ∀ (f : Addr) (cdv : Value) (A : Around) (outer : List Env) (s : Shared) (H : Hp) (E : XK), Room k (A.deeper (envOfC x (defScope st) s.heap.objs.size f cdv)) →
      ∃ t, PSs (cxOf CX0 P w K mg base N x (defScope st) f cdv A outer s H E).nox (defBody st) t ∧ ∀ (Q : VK) (c : Cq K) ds r, R ds r → Rt c Q r → Go c c.H0 t { nx := fun _ H' => Q .non H', rt := Q } (ds.map (Sl.val false) ++ List.replicate (N.length - ds.length) Sl.no)) :
    FnOk P w K mg base CX0 (k + 1) f fd ps (spF K R) := by
  refine F.ok S (fun vs H Q E h => ?_) (fun cdv A outer s H vs Q E hr h => ?_)
  · obtain ⟨ds, hd, r, hR, _⟩ := h
    rw [hd.length]; exact hlen _ _ hR
  · obtain ⟨t, h1, h2⟩ := hbody f cdv A outer s H E hr
    have hpl : ps.length ≤ N.length := by have := congrArg List.length S.pre; rw [List.length_take] at this; omega
    exact ⟨t, h1, enterF h (fun ds r hR => by rw [hlen _ _ hR]; exact hpl) fun c ds r hR hQ => h2 Q c ds r hR hQ⟩
theorem cl_F {R : List PyData → PyData → Prop} (D : Dfn K mg x st ps) (S : FnScope N ps (defScope st)) (hlen : ∀ ds r, R ds r → ds.length = ps.length)
    (hbody : ∀ (f : Addr) (cdv : Value) (A : Around) (outer : List Env) (s : Shared) (H : Hp) (E : XK), Room k (A.deeper (envOfC x (defScope st) s.heap.objs.size f cdv)) →
      ∃ t, PSs (cxOf CX0 P w K mg base N x (defScope st) f cdv A outer s H E).nox (defBody st) t ∧ ∀ (Q : VK) (c : Cq K) ds r, R ds r → Rt c Q r → Go c c.H0 t { nx := fun _ H' => Q .non H', rt := Q } (ds.map (Sl.val false) ++ List.replicate (N.length - ds.length) Sl.no)) :
    Cl P w K mg base CX0 (k + 1) x (spF K R) := by
  obtain ⟨f, fd, F, hm, b⟩ := D.ex
  exact ⟨f, fd, ps, fn_F F S hlen hbody, hm, F.kp, b⟩
theorem cl_L {R : List PyData → List PyData → Prop} (D : Dfn K mg x st ps) (S : FnScope N ps (defScope st)) (hlen : ∀ ds r, R ds r → ds.length = ps.length)
    (hbody : ∀ (f : Addr) (cdv : Value) (A : Around) (outer : List Env) (s : Shared) (H : Hp) (E : XK), Room k (A.deeper (envOfC x (defScope st) s.heap.objs.size f cdv)) →
      ∃ t, PSs (cxOf CX0 P w K mg base N x (defScope st) f cdv A outer s H E).nox (defBody st) t ∧ ∀ (Q : VK) (c : Cq K) ds r, (∀ a, c.NW a → c.H0 a = none) → R ds r → RtL c Q r → Go c c.H0 t { nx := fun _ H' => Q .non H', rt := Q } (ds.map (Sl.val false) ++ List.replicate (N.length - ds.length) Sl.no)) :
    Cl P w K mg base CX0 (k + 1) x (spL K R) := by
  obtain ⟨f, fd, F, hm, b⟩ := D.ex
  refine ⟨f, fd, ps, F.ok S (fun vs H Q E h => ?_) (fun cdv A outer s H vs Q E hr h => ?_), hm, F.kp, b⟩
  · obtain ⟨ds, hd, r, hR, _⟩ := h
    rw [hd.length]; exact hlen _ _ hR
  · obtain ⟨t, h1, h2⟩ := hbody f cdv A outer s H E hr
    have hpl : ps.length ≤ N.length := by have := congrArg List.length S.pre; rw [List.length_take] at this; omega
    exact ⟨t, h1, enterL (E := E) h (fun ds r hR => by rw [hlen _ _ hR]; exact hpl) fun c ds r hc hR hQ => h2 Q c ds r hc hR hQ⟩
theorem cl_X {R : List PyData → PyData → Prop} {Xr : List PyData → Addr → Prop} (D : Dfn K mg x st ps) (S : FnScope N ps (defScope st)) (hlen : ∀ ds r, R ds r → ds.length = ps.length) (hlenX : ∀ ds C, Xr ds C → ds.length = ps.length)
    (hbody : ∀ (f : Addr) (cdv : Value) (A : Around) (outer : List Env) (s : Shared) (H : Hp) (E : XK), Room k (A.deeper (envOfC x (defScope st) s.heap.objs.size f cdv)) →
      ∃ t, PSs (cxOf (L2.CX P w) P w K mg base N x (defScope st) f cdv A outer s H E) (defBody st) t ∧
        (∀ (Q : VK) (c : Cq K) ds r, R ds r → Rt c Q r → Go c c.H0 t { nx := fun _ H' => Q .non H', rt := Q } (ds.map (Sl.val false) ++ List.replicate (N.length - ds.length) Sl.no)) ∧
        (∀ (Q : VK) (c : Cq K) ds C, Xr ds C → (∀ H', Ex c.H0 H' → E (.ref C) none H') → Go c c.H0 t { nx := fun _ H' => Q .non H', rt := Q } (ds.map (Sl.val false) ++ List.replicate (N.length - ds.length) Sl.no))) :
    Cl P w K mg base (L2.CX P w) (k + 1) x (spX K R Xr) := by
  obtain ⟨f, fd, F, hm, b⟩ := D.ex
  refine ⟨f, fd, ps, F.okX S (fun vs H Q E h => ?_) (fun cdv A outer s H vs Q E hr h => ?_), hm, F.kp, b⟩
  · obtain ⟨ds, hd, h⟩ := h
    rw [hd.length]
    rcases h with ⟨r, hR, _⟩ | ⟨C, hX, _⟩
    · exact hlen _ _ hR
    · exact hlenX _ _ hX
  · obtain ⟨t, h1, h2, h3⟩ := hbody f cdv A outer s H E hr
    have hpl : ps.length ≤ N.length := by have := congrArg List.length S.pre; rw [List.length_take] at this; omega
    exact ⟨t, h1, enterX h (fun ds r hR => by rw [hlen _ _ hR]; exact hpl) (fun ds C hX => by rw [hlenX _ _ hX]; exact hpl) (fun c ds r hR hQ => h2 Q c ds r hR hQ) fun c ds C hX hE => h3 Q c ds C hX hE⟩
end
/-! ### more of what evaluates to what -/
section
variable {K : PySem.W.Frag} {c : Cq K} {b b' : Bool} {te ta tb tx : TE} {tt tu : TT} {ρ : Rho} {d : PyData} {ds es : List PyData} {i j : Int}
/-- a list to be read that is no list of the written part -/
def EvT (c : Cq K) (b : Bool) (te : TE) (ρ : Rho) (ds : List PyData) : Prop := ∀ (O : Addr → Prop) (σ : St) (F H : Hp), Sim c O ρ σ F H → ∀ Q : VK,
  (∀ a xs F' H', Ex F F' → Ex H H' → Sim c O ρ σ F' H' → Rd H' a (.lst xs) → DdAll (c.pw b) F' xs ds → Q (.ref a) H') → te σ H Q
theorem et_own {k : Nat} (h : ρ[k]? = some (.own b ds)) : EvT c b (tVar k) ρ ds := fun O σ F H S Q q => by
  obtain ⟨o, ho, a, xs, e, f0, h1, dd⟩ := S.get h
  exact ⟨_, by rw [ho, e], q _ xs F H (Evl.Ex.refl _) (Evl.Ex.refl _) S (.inl h1) dd⟩
theorem EvL.t (h : EvL c b te ρ ds) : EvT c b te ρ ds := fun O σ F H S Q k => h O σ F H S Q fun p xs F' H' e1 e2 S' hp fp at_ no dd => k p xs F' H' e1 e2 S' (.inl at_) dd
theorem Ev.t (h : Ev c true te ρ (.list ds)) : EvT c true te ρ ds := fun O σ F H S Q k => h O σ F H S Q fun v F' H' e1 e2 S' dd => by
  cases dd with
  | lst r q =>
    rcases r with ⟨_, r⟩ | r
    · exact k _ _ F' H' e1 e2 S' (rd_ex S'.ff r) q
    · exact (show False from r).elim
theorem EvT.weak (h : EvT c true te ρ ds) : EvT c false te ρ ds := fun O σ F H S Q k => h O σ F H S Q fun a xs F' H' e1 e2 S' r dd => k a xs F' H' e1 e2 S' r (dd.up Cq.more (Evl.Ex.refl _))
theorem EvT.e (h : EvT c b te ρ ds) : EvE c b te ρ ds := fun O σ F H S Q k => h O σ F H S Q fun a xs F' H' e1 e2 S' r dd => k a xs F' H' e1 e2 S' (.inl r) dd
theorem el_cat (ha : EvT c b ta ρ ds) (hb : EvT c b tb ρ es) (hl : ds.length + es.length ≤ 100000) : EvL c b (tOp rCatR ta tb) ρ (ds ++ es) := fun O σ F H S Q k =>
  ha O σ F H S _ fun a xs F1 H1 e1 h1 S1 r1 d1 => hb O σ F1 H1 S1 _ fun a2 ys F2 H2 e2 h2 S2 r2 d2 =>
    ⟨a, a2, xs, ys, rfl, rfl, rd_ex h2 r1, r2, Evl.sz_of (by rw [d1.length, d2.length]; exact hl), lay_list k (e1.trans e2) (h1.trans h2) S2 ((d1.ex e2).append d2)⟩
theorem DdAll.rep {m : Mode} {H : Hp} {vs : List V} {ds : List PyData} (h : DdAll m H vs ds) : ∀ n : Nat, DdAll m H (List.replicate n vs).flatten (List.replicate n ds).flatten
  | 0 => .nil
  | n + 1 => by
    rw [List.replicate_succ, List.replicate_succ, List.flatten_cons, List.flatten_cons]
    exact DdAll.append h (DdAll.rep h n)
theorem el_rep {n : Int} (ha : EvT c b ta ρ ds) (hb : EvR c tb ρ (.int n)) (hn : -100000 ≤ n ∧ n ≤ 100000) (hl : ds.length * n.toNat ≤ 100000) : EvL c b (tOp rRepR ta tb) ρ (List.replicate n.toNat ds).flatten := fun O σ F H S Q k =>
  ha O σ F H S _ fun a xs F1 H1 e1 h1 S1 r1 d1 => hb O σ F1 H1 S1 _ fun v F2 H2 e2 h2 S2 d2 => by
    cases d2
    exact ⟨a, n, xs, rfl, rfl, rd_ex h2 r1, by omega, by omega, Evl.sz_of (by rw [d1.length]; exact hl), lay_list k (e1.trans e2) (h1.trans h2) S2 ((d1.ex e2).rep _)⟩
theorem ev_maxD {ns : List Int} {m : Int} (ha : EvR c ta ρ (.list (ns.map PyData.int))) (hd : EvR c tb ρ (.int j)) (h0 : ns = [] → m = j) (h1 : ns ≠ [] → m ∈ ns ∧ ∀ y ∈ ns, y ≤ m) : Ev c b (tCKw (rMaxD K) (tCons ta tNil) (tCons tb tNil)) ρ (.int m) := fun O σ F H S Q k =>
  ha O σ F H S _ fun v F1 H1 e1 g1 S1 d1 => hd O σ F1 H1 S1 _ fun u F2 H2 e2 g2 S2 d2 => by
    cases d2
    cases d1 with
    | lst r q =>
      have e := q.ints
      subst e
      refine ⟨_, ns, _, rfl, rfl, dd_sq (fun _ _ h => h) g2 r, fun z => ?_, fun n q1 q2 => ?_⟩
      · rw [← h0 z]; exact k _ F2 H2 (e1.trans e2) (g1.trans g2) S2 (.int _)
      · have z : ns ≠ [] := List.ne_nil_of_mem q1
        obtain ⟨m1, m2⟩ := h1 z
        have e : n = m := by
          have a1 := q2 m m1
          have a2 := m2 n q1
          omega
        rw [e]; exact k _ F2 H2 (e1.trans e2) (g1.trans g2) S2 (.int _)
theorem ev_minD {ns : List Int} {m : Int} (ha : EvR c ta ρ (.list (ns.map PyData.int))) (hd : EvR c tb ρ (.int j)) (h0 : ns = [] → m = j) (h1 : ns ≠ [] → m ∈ ns ∧ ∀ y ∈ ns, m ≤ y) : Ev c b (tCKw (rMinD K) (tCons ta tNil) (tCons tb tNil)) ρ (.int m) := fun O σ F H S Q k =>
  ha O σ F H S _ fun v F1 H1 e1 g1 S1 d1 => hd O σ F1 H1 S1 _ fun u F2 H2 e2 g2 S2 d2 => by
    cases d2
    cases d1 with
    | lst r q =>
      have e := q.ints
      subst e
      refine ⟨_, ns, _, rfl, rfl, dd_sq (fun _ _ h => h) g2 r, fun z => ?_, fun n q1 q2 => ?_⟩
      · rw [← h0 z]; exact k _ F2 H2 (e1.trans e2) (g1.trans g2) S2 (.int _)
      · have z : ns ≠ [] := List.ne_nil_of_mem q1
        obtain ⟨m1, m2⟩ := h1 z
        have e : n = m := by
          have a1 := q2 m m1
          have a2 := m2 n q1
          omega
        rw [e]; exact k _ F2 H2 (e1.trans e2) (g1.trans g2) S2 (.int _)
/-- list(range(n)) -/
theorem el_listRg {n : Nat} (ha : EvR c ta ρ (.int (n : Int))) (hn : n ≤ 100000) : EvL c b (tLstRg (tRg1 ta)) ρ ((List.range n).map fun i : Nat => PyData.int (i : Int)) := fun O σ F H S Q k =>
  ha O σ F H S _ fun v F1 H1 e1 g1 S1 d1 => by
    cases d1
    refine ⟨(n : Int), rfl, ⟨by omega, by omega, by omega, by omega, by omega⟩, ?_⟩
    have e : rgV 0 (n : Int) = (List.range n).map fun i : Nat => V.int (i : Int) := by
      unfold rgV
      rw [show ((n : Int) - 0).toNat = n by omega]
      exact List.map_congr_left fun a _ => by rw [Int.zero_add]
    rw [e]
    refine lay_list k e1 g1 S1 ?_
    have q : ∀ l : List Nat, DdAll (c.pw b) F1 (l.map fun i : Nat => V.int (i : Int)) (l.map fun i : Nat => PyData.int (i : Int)) := fun l => by
      induction l with
      | nil => exact .nil
      | cons a r ih => exact .cons (.int _) ih
    exact q _
/-! isinstance, of a built-in class -/
def tyNm : PyData → String
  | .none => "NoneType"
  | .bool _ => "bool"
  | .int _ => "int"
  | .str _ => "str"
  | .list _ => "list"
  | .tuple _ => "tuple"
  | .dict _ => "dict"
def isDic : PyData → Bool
  | .dict _ => true
  | _ => false
def kitD : PyData → String → Option Bool
  | .dict _, _ => none
  | d, n => kitB (tyNm d) n
theorem tyx_of {m : Mode} {H : Hp} {v : V} (h : Dd m H v d) (nd : isDic d = false) (hl : ∀ a xs, m.L a xs → KL K a xs) : TyX K H v (.type (tyNm d)) := by
  cases h with
  | non => exact .base (.non)
  | bl b => exact .base (.bl b)
  | int i => exact .base (.int i)
  | str x => exact .base (.str x)
  | lst r q =>
    rcases r with ⟨_, r | ⟨o, r⟩⟩ | r
    · exact .base (.lst r)
    · exact .base (.frz r)
    · obtain ⟨o, _, _, h1, h2, _⟩ := hl _ _ r
      exact .kList h1 h2
  | tup p r q =>
    rcases r with r | ⟨o, r⟩
    · exact .base (.tup r)
    · exact .fTuple r
  | dic p r e1 e2 e3 q => cases nd
  | dis p r e1 e2 e3 q => cases nd
  | ins p r e1 q => cases nd
theorem ev_isi {n : String} {r : Bool} (ha : EvR c ta ρ d) (h : kitD d n = some r) : Ev c b (tCB (rIsi K) (tCons ta (tCons (tC (.ty n)) tNil))) ρ (.bool r) := fun O σ F H S Q k =>
  ha O σ F H S _ fun v F1 H1 e1 g1 S1 d1 => by
  have nd : isDic d = false ∧ kitB (tyNm d) n = some r := by cases d <;> first | exact ⟨rfl, h⟩ | (cases h)
  exact ⟨v, .ty n, _, _, r, rfl, .ty n, tyx_of d1 nd.1 (fun _ _ h => h), kit_ty nd.2, k _ F1 H1 e1 g1 S1 (.bl _)⟩
theorem kb_ii : kitB "int" "int" = some true := by decide +kernel
theorem kb_ib : kitB "int" "bool" = some false := by decide +kernel
theorem kb_bb : kitB "bool" "bool" = some true := by decide +kernel
theorem kb_ll : kitB "list" "list" = some true := by decide +kernel
theorem kb_tt : kitB "tuple" "tuple" = some true := by decide +kernel
theorem kb_nl : kitB "NoneType" "list" = some false := by decide +kernel
theorem kb_ni : kitB "NoneType" "int" = some false := by decide +kernel
end
end DL

end
section
set_option maxRecDepth 100000
set_option maxHeartbeats 2000000
/-! loops whose states are told one by one, sizes of numbers, plain encodings -/
namespace DL
open PySem L2
section
variable {K : PySem.W.Frag} {c : Cq K} {B : Hp} {b b' : Bool} {ρ ρ' ρ1 ρ2 : Rho} {D : Ends} {t u tz : TS} {te tl : TE} {tt : TT} {ta : TA} {d : PyData} {g : TG} {gs : TGs} {js : List Nat}
theorem tg_weak (l : Le ρ ρ1) (h : TgOk c b g js ρ d ρ2) : TgOk c b g js ρ1 d ρ2 := fun O σ F H v S x Q k => h O σ F H v (S.le l) x Q k
theorem go_forD {α : Type} {xs : List α} {enc : α → PyData} {tb : TS} (P : Nat → Prop) (ρf : Nat → Rho) (h : Ev c b tl ρ (.list (xs.map enc))) (hP : P 0) (h0 : Le (ρf 0) ρ)
    (hs : ∀ (B' : Hp) (i : Nat) (x : α), xs[i]? = some x → P i → ∃ js ρ2, TgOk c b g js (ρf i) (enc x) ρ2 ∧ Go c B' tb { D with nx := Pst c B' (fun r => P (i + 1) ∧ Le (ρf (i + 1)) r), ct := Pst c B' (fun r => P (i + 1) ∧ Le (ρf (i + 1)) r), bk := D.nx } ρ2)
    (hd : P xs.length → Nx c B D (ρf xs.length)) : Go c B (tFor (iList K tl) g tb) D ρ :=
  go_for h (fun i r => P i ∧ Le (ρf i) r) ⟨hP, h0⟩ (fun B' i x ρ1 hx ⟨p, l⟩ => by
    obtain ⟨js, ρ2, tg, go⟩ := hs B' i x hx p
    exact ⟨js, ρ2, tg_weak l tg, go⟩) fun ρ1 ⟨p, l⟩ => nx_weak l (hd p)
theorem q_forD {α : Type} {xs : List α} {enc : α → PyData} {tb : TS} (P : Nat → Prop) (ρf : Nat → Rho) (h : Ev c b tl ρ (.list (xs.map enc))) (hP : P 0) (h0 : Le (ρf 0) ρ)
    (hs : ∀ (B' : Hp) (i : Nat) (x : α), xs[i]? = some x → P i → ∃ js ρ2, TgOk c b g js (ρf i) (enc x) ρ2 ∧ Go c B' tb { D with nx := Pst c B' (fun r => P (i + 1) ∧ Le (ρf (i + 1)) r), ct := Pst c B' (fun r => P (i + 1) ∧ Le (ρf (i + 1)) r), bk := tz D } ρ2)
    (hd : P xs.length → Go c B tz D (ρf xs.length)) : Go c B (tSeq (tFor (iList K tl) g tb) tz) D ρ := go_forD (D := { D with nx := tz D }) P ρf h hP h0 hs hd
theorem go_forRD {tb : TS} {n : Nat} (P : Nat → Prop) (ρf : Nat → Rho) (h : EvA c ta ρ [.int (n : Int)]) (hn : n ≤ 100000) (hP : P 0) (h0 : Le (ρf 0) ρ)
    (hs : ∀ (i : Nat), i < n → P i → ∃ js ρ2, TgOk c false g js (ρf i) (.int (i : Int)) ρ2 ∧ Go c B tb { D with nx := Pst c B (fun r => P (i + 1) ∧ Le (ρf (i + 1)) r), ct := Pst c B (fun r => P (i + 1) ∧ Le (ρf (i + 1)) r), bk := D.nx } ρ2)
    (hd : P n → Nx c B D (ρf n)) : Go c B (tFor (iRng1 ta) g tb) D ρ :=
  go_forR h hn (fun i r => P i ∧ Le (ρf i) r) ⟨hP, h0⟩ (fun i ρ1 hx ⟨p, l⟩ => by
    obtain ⟨js, ρ2, tg, go⟩ := hs i hx p
    exact ⟨js, ρ2, tg_weak l tg, go⟩) fun ρ1 ⟨p, l⟩ => nx_weak l (hd p)
theorem q_forRD {tb : TS} {n : Nat} (P : Nat → Prop) (ρf : Nat → Rho) (h : EvA c ta ρ [.int (n : Int)]) (hn : n ≤ 100000) (hP : P 0) (h0 : Le (ρf 0) ρ)
    (hs : ∀ (i : Nat), i < n → P i → ∃ js ρ2, TgOk c false g js (ρf i) (.int (i : Int)) ρ2 ∧ Go c B tb { D with nx := Pst c B (fun r => P (i + 1) ∧ Le (ρf (i + 1)) r), ct := Pst c B (fun r => P (i + 1) ∧ Le (ρf (i + 1)) r), bk := tz D } ρ2)
    (hd : P n → Go c B tz D (ρf n)) : Go c B (tSeq (tFor (iRng1 ta) g tb) tz) D ρ := go_forRD (D := { D with nx := tz D }) P ρf h hn hP h0 hs hd
theorem go_forR2D {tb : TS} {n : Nat} {lo hi : Int} (P : Nat → Prop) (ρf : Nat → Rho) (h : EvA c ta ρ [.int lo, .int hi]) (hb : -100000 ≤ lo ∧ lo ≤ 100000 ∧ -100000 ≤ hi ∧ hi ≤ 100000) (en : (hi - lo).toNat = n) (hP : P 0) (h0 : Le (ρf 0) ρ)
    (hs : ∀ (i : Nat), i < n → P i → ∃ js ρ2, TgOk c false g js (ρf i) (.int (lo + (i : Int))) ρ2 ∧ Go c B tb { D with nx := Pst c B (fun r => P (i + 1) ∧ Le (ρf (i + 1)) r), ct := Pst c B (fun r => P (i + 1) ∧ Le (ρf (i + 1)) r), bk := D.nx } ρ2)
    (hd : P n → Nx c B D (ρf n)) : Go c B (tFor (iRng2 ta) g tb) D ρ :=
  go_forR2 h hb en (fun i r => P i ∧ Le (ρf i) r) ⟨hP, h0⟩ (fun i ρ1 hx ⟨p, l⟩ => by
    obtain ⟨js, ρ2, tg, go⟩ := hs i hx p
    exact ⟨js, ρ2, tg_weak l tg, go⟩) fun ρ1 ⟨p, l⟩ => nx_weak l (hd p)
theorem q_forR2D {tb : TS} {n : Nat} {lo hi : Int} (P : Nat → Prop) (ρf : Nat → Rho) (h : EvA c ta ρ [.int lo, .int hi]) (hb : -100000 ≤ lo ∧ lo ≤ 100000 ∧ -100000 ≤ hi ∧ hi ≤ 100000) (en : (hi - lo).toNat = n) (hP : P 0) (h0 : Le (ρf 0) ρ)
    (hs : ∀ (i : Nat), i < n → P i → ∃ js ρ2, TgOk c false g js (ρf i) (.int (lo + (i : Int))) ρ2 ∧ Go c B tb { D with nx := Pst c B (fun r => P (i + 1) ∧ Le (ρf (i + 1)) r), ct := Pst c B (fun r => P (i + 1) ∧ Le (ρf (i + 1)) r), bk := tz D } ρ2)
    (hd : P n → Go c B tz D (ρf n)) : Go c B (tSeq (tFor (iRng2 ta) g tb) tz) D ρ := go_forR2D (D := { D with nx := tz D }) P ρf h hb en hP h0 hs hd
/-- the end of a turn -/
theorem nx_turn {P : Prop} {rt : VK} {bk ct : L2.St → Hp → Prop} (p : P) (l : Le ρ' ρ) : Nx c B ⟨Pst c B (fun r => P ∧ Le ρ' r), rt, bk, ct⟩ ρ := nx_pst ⟨p, l⟩
end
/-! ### sizes -/
/-- |x| below 2 ^ n -/
structure Sz (n : Nat) (x : Int) : Prop where
  h : x.natAbs < 2 ^ n
theorem Sz.mono {m n : Nat} {x : Int} (h : Sz m x) (l : m ≤ n) : Sz n x := ⟨Nat.lt_of_lt_of_le h.h (Nat.pow_le_pow_right (by decide) l)⟩
theorem Sz.add {n : Nat} {x y : Int} (h : Sz n x) (g : Sz n y) : Sz (n + 1) (x + y) := ⟨by
  have a := h.h
  have b := g.h
  rw [Nat.pow_succ]
  omega⟩
theorem Sz.sub {n : Nat} {x y : Int} (h : Sz n x) (g : Sz n y) : Sz (n + 1) (x - y) := ⟨by
  have a := h.h
  have b := g.h
  rw [Nat.pow_succ]
  omega⟩
theorem Sz.add2 {m n : Nat} {x y : Int} (h : Sz m x) (g : Sz n y) : Sz (max m n + 1) (x + y) := Sz.add (h.mono (Nat.le_max_left _ _)) (g.mono (Nat.le_max_right _ _))
theorem Sz.sub2 {m n : Nat} {x y : Int} (h : Sz m x) (g : Sz n y) : Sz (max m n + 1) (x - y) := Sz.sub (h.mono (Nat.le_max_left _ _)) (g.mono (Nat.le_max_right _ _))
theorem Sz.mul {m n : Nat} {x y : Int} (h : Sz m x) (g : Sz n y) : Sz (m + n) (x * y) := ⟨by
  rw [Int.natAbs_mul, Nat.pow_add]
  exact Nat.mul_lt_mul'' h.h g.h⟩
theorem Sz.neg {n : Nat} {x : Int} (h : Sz n x) : Sz n (-x) := ⟨by rw [Int.natAbs_neg]; exact h.h⟩
theorem Sz.log {n : Nat} {x : Int} (h : Sz n x) : x.natAbs.log2 ≤ n := by
  by_cases z : x.natAbs = 0
  · rw [z]; simp
  · exact Nat.le_of_lt ((Nat.log2_lt z).mpr h.h)
theorem Sz.mulB {m n : Nat} {x y : Int} (h : Sz m x) (g : Sz n y) (l : m + n < 100000000) : CMulB x y := by
  have a := h.log
  have b := g.log
  unfold CMulB
  omega
theorem Sz.of_le {n : Nat} {x y : Int} (h : Sz n y) (h0 : 0 ≤ x) (l : x ≤ y) : Sz n x := ⟨by have := h.h; omega⟩
theorem Sz.of_abs {n : Nat} {x y : Int} (h : Sz n y) (l : x.natAbs ≤ y.natAbs) : Sz n x := ⟨Nat.lt_of_le_of_lt l h.h⟩
theorem Sz.of_nat {n : Nat} {x : Int} (l : x.natAbs < 2 ^ n) : Sz n x := ⟨l⟩
theorem Sz.lt {x : Int} {n : Nat} (h0 : 0 ≤ x) (h : x < 2 ^ n) : Sz n x := ⟨by
  have e : ((2 ^ n : Nat) : Int) = (2 : Int) ^ n := by simp
  omega⟩
theorem Sz.bits {n : Nat} {x : Int} (h : Builtin.Int.intBits x ≤ n) : Sz n x := by
  refine ⟨?_⟩
  unfold Builtin.Int.intBits at h
  split at h
  · rename_i z
    have : x.natAbs = 0 := by simp_all
    rw [this]
    exact Nat.pow_pos (by decide)
  · rename_i z
    have z' : x.natAbs ≠ 0 := by
      intro q
      apply z
      simp_all
    exact (Nat.log2_lt z').mp (by omega)
theorem Sz.divW {n : Nat} {x j : Int} (h : 0 < j) (g : Sz n j) (l : n < 9000) : CDivW x j := ⟨h, Nat.lt_of_le_of_lt g.log l⟩
theorem Sz.div {n : Nat} {x j : Int} (h : Sz n x) (g : 0 < j) : Sz n (x / j) := h.of_abs (by
  have := Int.natAbs_ediv_le_natAbs x j
  omega)
/-! ### pairs and triples of ints as lists -/
abbrev pD (p : Int × Int) : PyData := .list [.int p.1, .int p.2]
abbrev wD (p : Int × Int × Int) : PyData := .list [.int p.1, .int p.2.1, .int p.2.2]
abbrev iL (xs : List Int) : PyData := .list (xs.map PyData.int)
abbrev pL (xs : List (Int × Int)) : PyData := .list (xs.map pD)
abbrev wL (xs : List (Int × Int × Int)) : PyData := .list (xs.map wD)
/-- the script as a law gets it -/
theorem law_in {K : PySem.W.Frag} {R : List PyData → PyData → Prop} {H : Hp} {a : Addr} {ns : List Int} {E : XK} (hS : SqL K H a (ns.map V.int)) (hR : R [iL ns] (.bool true)) : spF K R [.ref a] H (fun v _ => v = .bl true) E :=
  ⟨[iL ns], .cons (.lst (sq_dd hS) (DdAll.ofInts ns)) .nil, .bool true, hR, fun v H' _ dd => by cases dd; rfl⟩
end DL

end
section
set_option maxRecDepth 100000
set_option maxHeartbeats 2000000
/-! data that is compared, copied -/
namespace DL
open PySem L2
mutual
/-- ints, texts, None, lists and tuples of such -/
def plain : PyData → Bool
  | .none => true
  | .bool _ => false
  | .int _ => true
  | .str x => PyData.strOk x
  | .list xs => plainAll xs
  | .tuple xs => plainAll xs
  | .dict _ => false
def plainAll : List PyData → Bool
  | [] => true
  | x :: xs => plain x && plainAll xs
end
mutual
theorem plain_lay : ∀ d : PyData, plain d = true → d.canLay0 = true
  | .none, _ => by simp [PyData.canLay0]
  | .bool _, h => by simp [plain] at h
  | .int _, _ => by simp [PyData.canLay0]
  | .str x, h => by simp only [plain] at h; simp only [PyData.canLay0]; exact h
  | .list xs, h => by simp only [plain] at h; simp only [PyData.canLay0]; exact plain_layAll xs h
  | .tuple xs, h => by simp only [plain] at h; simp only [PyData.canLay0]; exact plain_layAll xs h
  | .dict _, h => by simp [plain] at h
theorem plain_layAll : ∀ xs : List PyData, plainAll xs = true → PyData.canLayAll0 xs = true
  | [], _ => by simp only [PyData.canLayAll0]
  | x :: xs, h => by
    simp only [plainAll, Bool.and_eq_true] at h
    simp only [PyData.canLayAll0, Bool.and_eq_true]
    exact ⟨plain_lay x h.1, plain_layAll xs h.2⟩
end
mutual
theorem eqv_plain : ∀ d e : PyData, plain d = true → plain e = true → (PyData.eqv d e = true ↔ d = e)
  | .none, e, _, h2 => by cases e <;> simp [PyData.eqv, plain] at *
  | .bool _, e, h, _ => by simp [plain] at h
  | .int i, e, _, h2 => by cases e <;> simp [PyData.eqv, plain] at *
  | .str x, e, _, h2 => by cases e <;> simp [PyData.eqv, plain] at *
  | .list xs, e, h, h2 => by
    cases e with
    | list ys =>
      simp only [plain] at h h2
      simp only [PyData.eqv, PyData.list.injEq]
      exact eqvAll_plain xs ys h h2
    | _ => simp [PyData.eqv, plain] at *
  | .tuple xs, e, h, h2 => by
    cases e with
    | tuple ys =>
      simp only [plain] at h h2
      simp only [PyData.eqv, PyData.tuple.injEq]
      exact eqvAll_plain xs ys h h2
    | _ => simp [PyData.eqv, plain] at *
  | .dict _, e, h, _ => by simp [plain] at h
theorem eqvAll_plain : ∀ xs ys : List PyData, plainAll xs = true → plainAll ys = true → (PyData.eqvAll xs ys = true ↔ xs = ys)
  | [], [], _, _ => by simp [PyData.eqvAll]
  | [], _ :: _, _, _ => by simp [PyData.eqvAll]
  | _ :: _, [], _, _ => by simp [PyData.eqvAll]
  | x :: xs, y :: ys, h, h2 => by
    simp only [plainAll, Bool.and_eq_true] at h h2
    simp only [PyData.eqvAll, Bool.and_eq_true, List.cons.injEq]
    rw [eqv_plain x y h.1 h2.1, eqvAll_plain xs ys h.2 h2.2]
end
/-- data that may be compared: plain, at most k deep -/
structure Nice (k : Nat) (d : PyData) : Prop where
  pl : plain d = true
  dp : d.depth ≤ k
theorem plainAll_iff : ∀ {xs : List PyData}, plainAll xs = true ↔ ∀ d ∈ xs, plain d = true
  | [] => by simp [plainAll]
  | x :: xs => by simp [plainAll, plainAll_iff (xs := xs)]
theorem depthAll_le : ∀ {xs : List PyData} {k : Nat}, (∀ d ∈ xs, d.depth ≤ k) → PyData.depthAll xs ≤ k
  | [], k, _ => by simp [PyData.depthAll]
  | x :: xs, k, h => by
    simp only [PyData.depthAll]
    have a := h x (by simp)
    have b := depthAll_le (xs := xs) (k := k) fun d hd => h d (by simp [hd])
    omega
theorem Nice.mono {j k : Nat} {d : PyData} (h : Nice j d) (l : j ≤ k) : Nice k d := ⟨h.pl, Nat.le_trans h.dp l⟩
theorem nice_int (k : Nat) (i : Int) : Nice k (.int i) := ⟨by simp [plain], by simp [PyData.depth]⟩
theorem nice_none (k : Nat) : Nice k .none := ⟨by simp [plain], by simp [PyData.depth]⟩
theorem nice_str (k : Nat) {x : Str} (h : PyData.strOk x = true) : Nice k (.str x) := ⟨by simp [plain, h], by simp [PyData.depth]⟩
theorem nice_list {k : Nat} {xs : List PyData} (h : ∀ d ∈ xs, Nice k d) : Nice (k + 1) (.list xs) := ⟨by simp only [plain]; exact plainAll_iff.mpr fun d hd => (h d hd).pl, by
  simp only [PyData.depth]
  have := depthAll_le (xs := xs) (k := k) fun d hd => (h d hd).dp
  omega⟩
theorem nice_tup {k : Nat} {xs : List PyData} (h : ∀ d ∈ xs, Nice k d) : Nice (k + 1) (.tuple xs) := ⟨by simp only [plain]; exact plainAll_iff.mpr fun d hd => (h d hd).pl, by
  simp only [PyData.depth]
  have := depthAll_le (xs := xs) (k := k) fun d hd => (h d hd).dp
  omega⟩
theorem nice_map {α : Type} {k : Nat} {f : α → PyData} (h : ∀ a, Nice k (f a)) (xs : List α) : Nice (k + 1) (.list (xs.map f)) := nice_list fun d hd => by
  obtain ⟨a, _, rfl⟩ := List.mem_map.mp hd
  exact h a
theorem nice_iL (xs : List Int) : Nice 1 (iL xs) := nice_map (fun a => nice_int 0 a) xs
theorem nice_pD (p : Int × Int) : Nice 1 (pD p) := nice_list fun d hd => by
  simp at hd
  rcases hd with rfl | rfl <;> exact nice_int _ _
theorem nice_wD (p : Int × Int × Int) : Nice 1 (wD p) := nice_list fun d hd => by
  simp at hd
  rcases hd with rfl | rfl | rfl <;> exact nice_int _ _
theorem nice_pL (xs : List (Int × Int)) : Nice 2 (pL xs) := nice_map (fun a => nice_pD a) xs
theorem nice_wL (xs : List (Int × Int × Int)) : Nice 2 (wL xs) := nice_map (fun a => nice_wD a) xs
theorem nice_iLL (xs : List (List Int)) : Nice 2 (.list (xs.map iL)) := nice_map (fun a => nice_iL a) xs
theorem nice_nil (k : Nat) : Nice (k + 1) (.list []) := nice_list fun d hd => by cases hd
theorem nice_two {k : Nat} {a b : PyData} (ha : Nice k a) (hb : Nice k b) : Nice (k + 1) (.list [a, b]) := nice_list fun d hd => by
  simp at hd
  rcases hd with rfl | rfl <;> assumption
theorem nice_three {k : Nat} {a b c : PyData} (ha : Nice k a) (hb : Nice k b) (hc : Nice k c) : Nice (k + 1) (.list [a, b, c]) := nice_list fun d hd => by
  simp at hd
  rcases hd with rfl | rfl | rfl <;> assumption
theorem Nice.shaped {k : Nat} {d : PyData} (h : Nice k d) (l : k ≤ 64) : SeqAt.shaped d = true := by
  unfold SeqAt.shaped
  rw [plain_lay d h.pl, decide_eq_true (Nat.le_trans h.dp l)]
  rfl
theorem Nice.eqv {j k : Nat} {d e : PyData} (h : Nice j d) (g : Nice k e) : (PyData.eqv d e = true ↔ d = e) := eqv_plain d e h.pl g.pl
theorem Nice.refl {j : Nat} {d : PyData} (h : Nice j d) : PyData.eqv d d = true := (h.eqv h).mpr rfl
theorem Nice.eqB {j k : Nat} {d e : PyData} (h : Nice j d) (g : Nice k e) {p : Prop} [Decidable p] (q : d = e ↔ p) : PyData.eqv d e = decide p := by
  rw [Bool.eq_iff_iff, h.eqv g, q, decide_eq_true_eq]
theorem pD_inj {a b : Int × Int} : pD a = pD b ↔ a = b := by
  obtain ⟨a1, a2⟩ := a
  obtain ⟨b1, b2⟩ := b
  simp
theorem wD_inj {a b : Int × Int × Int} : wD a = wD b ↔ a = b := by
  obtain ⟨a1, a2, a3⟩ := a
  obtain ⟨b1, b2, b3⟩ := b
  simp
theorem map_inj {α : Type} {f : α → PyData} (h : ∀ {a b : α}, f a = f b ↔ a = b) {xs ys : List α} : PyData.list (xs.map f) = PyData.list (ys.map f) ↔ xs = ys := by
  rw [PyData.list.injEq]
  constructor
  · intro e
    exact List.map_inj_right (fun a b q => h.mp q) |>.mp e
  · rintro rfl; rfl
theorem iL_inj {xs ys : List Int} : iL xs = iL ys ↔ xs = ys := map_inj (by simp)
theorem pL_inj {xs ys : List (Int × Int)} : pL xs = pL ys ↔ xs = ys := map_inj pD_inj
theorem wL_inj {xs ys : List (Int × Int × Int)} : wL xs = wL ys ↔ xs = ys := map_inj wD_inj
/-- x in a list of data -/
theorem any_eqv {α : Type} {f : α → PyData} {k : Nat} (hf : ∀ a, Nice k (f a)) (h : ∀ {a b : α}, f a = f b ↔ a = b) (xs : List α) (x : α) [DecidableEq α] : ((xs.map f).any fun z => PyData.eqv z (f x)) = decide (x ∈ xs) := by
  rw [Bool.eq_iff_iff, List.any_eq_true, decide_eq_true_eq]
  constructor
  · rintro ⟨d, hd, e⟩
    obtain ⟨a, ha, rfl⟩ := List.mem_map.mp hd
    have := h.mp (((hf a).eqv (hf x)).mp e)
    subst this
    exact ha
  · intro hx
    exact ⟨f x, List.mem_map.mpr ⟨x, hx, rfl⟩, (hf x).refl⟩
/-! lists of rows, copied -/
/-- each thing is a list of plain values -/
def Rows (xs : List PyData) : Prop := ∀ d ∈ xs, ∃ ds, d = .list ds ∧ ∀ x ∈ ds, isSca x = true
theorem rows_map {α : Type} {f : α → PyData} (h : ∀ a, ∃ ds, f a = .list ds ∧ ∀ x ∈ ds, isSca x = true) (xs : List α) : Rows (xs.map f) := fun d hd => by
  obtain ⟨a, _, rfl⟩ := List.mem_map.mp hd
  exact h a
theorem rows_p (xs : List (Int × Int)) : Rows (xs.map pD) := rows_map (fun a => ⟨_, rfl, by simp [isSca]⟩) xs
theorem rows_w (xs : List (Int × Int × Int)) : Rows (xs.map wD) := rows_map (fun a => ⟨_, rfl, by simp [isSca]⟩) xs
theorem rows_i (xs : List (List Int)) : Rows (xs.map iL) := rows_map (fun a => ⟨_, rfl, by simp [isSca]⟩) xs
theorem DdAll.sca {m m' : Mode} {H H' : Hp} : ∀ {vs : List V} {ds : List PyData}, DdAll m H vs ds → (∀ d ∈ ds, isSca d = true) → DdAll m' H' vs ds
  | _, _, .nil, _ => .nil
  | _, _, .cons p q, h => .cons (p.sca (h _ (by simp))) (DdAll.sca q fun d hd => h d (by simp [hd]))
section
variable {K : PySem.W.Frag} {c : Cq K} {b b0 : Bool} {ρ : Rho} {te tl : TE} {ds : List PyData} {j : Nat}
/-- list(xs), plain values -/
theorem el_listS (h : EvR c te ρ (.list ds)) (hs : ∀ d ∈ ds, isSca d = true) : EvL c b (tCB (fun xs H Q => ∃ p ys, xs = [V.ref p] ∧ (SqL K H p ys ∨ SqT K H p ys) ∧ ∀ l, H l = none → Q (.ref l) (upd H l (.lst ys))) (tCons te tNil)) ρ ds := fun O σ F H S Q k =>
  h O σ F H S _ fun v F1 H1 e1 h1 S1 d1 => by
    cases d1 with
    | lst r q => exact ⟨_, _, rfl, .inl (dd_sq (fun _ _ h => h) (Evl.Ex.refl _) r), lay_list k e1 h1 S1 (q.sca hs)⟩
/-- [list(x) for x in xs] -/
theorem el_copy {vs : List Nat} (h : EvE c b0 tl ρ ds) (hr : Rows ds) (hz : ds.length ≤ 40000) (hv : vs = [j]) (hj : j < ρ.length) : EvL c b (tLc (iList K tl) (gName j) tYes (tCB (fun xs H Q => ∃ p ys, xs = [V.ref p] ∧ (SqL K H p ys ∨ SqT K H p ys) ∧ ∀ l, H l = none → Q (.ref l) (upd H l (.lst ys))) (tCons (tVar j) tNil)) vs) ρ ds := by
  subst hv
  have e : ((ds.filter fun _ => true).map id) = ds := by simp
  have e2 : ds.map id = ds := by simp
  refine EvL.is (el_lc (b0 := b0) (xs := ds) (enc := id) (js := [j]) (fun _ => true) id (by rw [e2]; exact h) hz (by simp) fun d hd => ⟨_, tg_name, eb_yes, fun _ => ?_⟩) e
  obtain ⟨es, rfl, hs⟩ := hr d hd
  refine EvL.ev (el_listS (ev_var (b := b0) ?_).r hs)
  unfold wipeR
  rw [List.getElem?_set_self (by unfold wipeR; simpa using hj)]
  rfl
end
theorem atI_some {α : Type} {xs : List α} {i : Int} (h0 : 0 ≤ i) (h1 : i < (xs.length : Int)) : ∃ x, x ∈ xs ∧ atI xs i = some x := by
  have h : i.toNat < xs.length := by omega
  exact ⟨xs[i.toNat], List.getElem_mem h, atI_natI h0 (by simp [h])⟩
theorem ixN_of {n : Nat} {i : Int} (h0 : 0 ≤ i) (h1 : i < (n : Int)) : ixN n i = some i.toNat := by
  unfold ixN
  rw [if_pos h0, if_pos h1]
end DL

end
section
set_option maxRecDepth 100000
set_option maxHeartbeats 2000000
/-! the hand layer's rules with the written part told by its own name (a comprehension's block has it too) -/
namespace DL
open PySem PySem.Spec PyProof.Rows L2
section
variable {X : Cx} (K : PySem.W.Frag)
theorem k_ix_list (h : X.K = K := by rfl) : IxR X (rIxL K) := h ▸ ix_list
theorem k_ix_tup (h : X.K = K := by rfl) : IxR X (rIxT K) := h ▸ ix_tup
theorem k_sl_list (h : X.K = K := by rfl) : SlR X (rSlL K) := h ▸ sl_list
theorem k_sl_tup (h : X.K = K := by rfl) : SlR X (rSlT K) := h ▸ sl_tup
theorem k_in_seq (h : X.K = K := by rfl) : OpR X (compareOp .In) (rIn K false) := h ▸ op_in_seq
theorem k_nin_seq (h : X.K = K := by rfl) : OpR X (compareOp .NotIn) (rIn K true) := h ▸ op_notIn_seq
theorem k_eqD (hu : X.A.units + 64 < cLine) (h : X.K = K := by rfl) : OpR X (compareOp .Eq) (rEqD K) := h ▸ op_eqD hu
theorem k_neD (hu : X.A.units + 64 < cLine) (h : X.K = K := by rfl) : OpR X (compareOp .NotEq) (rNeD K) := h ▸ op_neD hu
theorem k_inD (hu : X.A.units + 65 < cLine) (h : X.K = K := by rfl) : OpR X (compareOp .In) (rInD K) := h ▸ op_inD hu
theorem k_ninD (hu : X.A.units + 65 < cLine) (h : X.K = K := by rfl) : OpR X (compareOp .NotIn) (rNotInD K) := h ▸ op_notInD hu
theorem k_ltT (hu : X.A.units < cLine) (h : X.K = K := by rfl) : OpR X (compareOp .Lt) (rLtT K) := h ▸ op_ltT hu
theorem k_len_seq (h : X.K = K := by rfl) : CallR X (.builtin "len") (fun xs H Q => ∃ p ys, xs = [V.ref p] ∧ (SqL K H p ys ∨ SqT K H p ys) ∧ Q (.int ys.length) H) := h ▸ call_len_seq
theorem k_list_of (h : X.K = K := by rfl) : CallR X (.type "list") (fun xs H Q => ∃ p ys, xs = [V.ref p] ∧ (SqL K H p ys ∨ SqT K H p ys) ∧ ∀ l, H l = none → Q (.ref l) (upd H l (.lst ys))) := h ▸ call_list_of
theorem k_sum (hc : X.calm = true) (h : X.K = K := by rfl) : CallR X (.builtin "sum") (rSum K) := h ▸ cr_sum hc
theorem k_max (hc : X.calm = true) (h : X.K = K := by rfl) : CallR X (.builtin "max") (rMax K) := h ▸ cr_max hc
theorem k_min (hc : X.calm = true) (h : X.K = K := by rfl) : CallR X (.builtin "min") (rMin K) := h ▸ cr_min hc
theorem k_all (hc : X.calm = true) (h : X.K = K := by rfl) : CallR X (.builtin "all") (rAll K) := h ▸ cr_all hc
theorem k_any (hc : X.calm = true) (h : X.K = K := by rfl) : CallR X (.builtin "any") (rAny K) := h ▸ cr_any hc
theorem k_sorted (h : X.K = K := by rfl) : CallR X (.builtin "sorted") (rSorted K) := h ▸ cr_sorted
theorem k_isi (h : X.K = K := by rfl) : CallR X (.builtin "isinstance") (rIsi K) := h ▸ call_isi
theorem k_isiT (h : X.K = K := by rfl) : CallR X (.builtin "isinstance") (rIsiT K) := h ▸ call_isiT
theorem k_maxD (hc : X.calm = true) (h : X.K = K := by rfl) : CallRK X (.builtin "max") ["default"] (rMaxD K) := h ▸ cr_maxD hc
theorem k_minD (hc : X.calm = true) (h : X.K = K := by rfl) : CallRK X (.builtin "min") ["default"] (rMinD K) := h ▸ cr_minD hc
theorem k_pget (h : X.K = K := by rfl) : PGet X (rIxL K) := h ▸ pget_list
theorem k_index (h : X.K = K := by rfl) : MtR X "list.index" (rIndex K) := h ▸ mt_index
theorem k_pg_unl {es : List Expr} {k : Nat} {t : TGs} {n : Nat} {pos : Pos} (hc : X.calm = true) (h : PGs X es t) (hK : X.K = K := by rfl)
    (hn : (assignEach es X.env).length = n := by rfl) (hst : (assignEach es X.env).findIdx? (·.1) = none := by rfl) : PG X (.Tuple es k pos) (gUnl K n t) := hK ▸ pg_unl hc h hn hst
theorem k_pg_tup {es : List Expr} {k : Nat} {t : TGs} {n : Nat} {pos : Pos} (hc : X.calm = true) (h : PGs X es t) (hK : X.K = K := by rfl)
    (hn : (assignEach es X.env).length = n := by rfl) (hst : (assignEach es X.env).findIdx? (·.1) = none := by rfl) : PG X (.Tuple es k pos) (gTup K n t) := hK ▸ pg_tup hc h hn hst
theorem k_pi_list {tg l : Expr} {tl : TE} (hl : PE X l tl) (hK : X.K = K := by rfl) : PI X tg l (iList K tl) := hK ▸ pi_list hl
theorem k_pi_tup {tg l : Expr} {tl : TE} (hl : PE X l tl) (hK : X.K = K := by rfl) : PI X tg l (iTup K tl) := hK ▸ pi_tup hl
theorem k_revL {e : Expr} {te : TE} {k : Nat} {p1 p2 p3 pos : Pos} (he : PE X e te) (hK : X.K = K := by rfl) : PE X (.Subscript e (.Slice none none (some (.UnaryOp .USub (.Constant (.int 1) k p1) p2)) p3) pos) (tRevL K te) := hK ▸ pe_revL he
theorem k_bm {T id : String} {name : Str} {apos cpos : Pos} {o e : Expr} {es : List Expr} {r : V → List V → Hp → VK → Prop} {to : TE} {t : TA} (pa : PlainAttrs T) (slot : Slot T name id) (hty : typeOf (.builtin id) = pure (.type "method_descriptor")) (hm : MtR X id r) (ho : PE X o to) (ha : PA X (e :: es) t)
    (hK : X.K = K := by rfl) (hbase : attributeBase o name X.env (eval o X.env) = eval o X.env := by rfl)
    (hfew : ((backTo cpos (starEach (e :: es) X.env)).all (fun x => !x.1) && (backToKw cpos (keywordEach [] X.env)).all (fun x => x.1.isSome)
      && decide ((e :: es).length + ([] : List Keyword).length + (if ([] : List Keyword).isEmpty then 0 else 1) < 30)) = true := by rfl)
    (hline : (apos.endLine == cpos.line) = true := by rfl) (hs : starEach (e :: es) X.env = (false, eval e X.env) :: starEach es X.env := by rfl) (hplain : (backTo cpos (starEach es X.env)).any (·.1) = false := by rfl) :
    PE X (.Call (.Attribute o name apos) (e :: es) [] cpos) (tBM K T r to t) := hK ▸ pe_bm pa slot hty hm ho ha hbase hfew hline hs hplain
/-- sep.join(xs) -/
def rJoin : V → List V → Hp → VK → Prop := fun x xs H Q => ∃ a p, ∃ ys : List Str, x = .str a ∧ xs = [.ref p] ∧ (SqL K H p (ys.map V.str) ∨ SqT K H p (ys.map V.str)) ∧ (ys.map (·.length)).sum + ys.length * a.length ≤ 16777216 ∧ Q (.str (Txt.join a ys)) H
theorem k_join {o e : Expr} {to te : TE} {apos pos : Pos} (ho : PE X o to) (he : PE X e te) (hK : X.K = K := by rfl) (hs : starEach [e] X.env = [(false, eval e X.env)] := by rfl) (hbase : attributeBase o "join" X.env (eval o X.env) = eval o X.env := by rfl) (hline : (apos.endLine == pos.line) = true := by rfl) :
    PE X (.Call (.Attribute o "join" apos) [e] [] pos) (tM1 (rJoin K) to te) := by
  subst hK
  exact pe_join ho he hs hbase hline
end
theorem lc_all {α : Type} (xs : List α) : (xs.filter fun _ => true) = xs := by
  induction xs with
  | nil => rfl
  | cons a r ih => simp
theorem lc_const {α : Type} (n : Nat) (x : α) : ((List.range n).filter fun _ => true).map (fun _ => x) = List.replicate n x := by
  rw [lc_all]
  exact List.ext_getElem (by simp) (by simp)
end DL

end
section
set_option maxRecDepth 100000
set_option maxHeartbeats 2000000
/-! what evaluates to some data of a kind: calls whose results are known by what holds of them -/
namespace DL
open PySem PySem.Spec PyProof.Rows L2
def EvN {K : PySem.W.Frag} (c : Cq K) (b : Bool) (te : TE) (ρ : Rho) (P : PyData → Prop) : Prop := ∀ (O : Addr → Prop) (σ : St) (F H : Hp), Sim c O ρ σ F H → ∀ Q : VK, (∀ d v F' H', P d → Ex F F' → Ex H H' → Sim c O ρ σ F' H' → Dd (c.pw b) F' v d → Q v H') → te σ H Q
def EvAN {K : PySem.W.Frag} (c : Cq K) (ta : TA) (ρ : Rho) (P : List PyData → Prop) : Prop := ∀ (O : Addr → Prop) (σ : St) (F H : Hp), Sim c O ρ σ F H → ∀ Q : List V → Hp → Prop, (∀ ds vs F' H', P ds → Ex F F' → Ex H H' → Sim c O ρ σ F' H' → DdAll (T1 K) H' vs ds → Q vs H') → ta σ H Q
def EvFN {K : PySem.W.Frag} (c : Cq K) (b : Bool) (ta : TA) (ρ : Rho) (P : List PyData → Prop) : Prop := ∀ (O : Addr → Prop) (σ : St) (F H : Hp), Sim c O ρ σ F H → ∀ Q : List V → Hp → Prop, (∀ ds vs F' H', P ds → Ex F F' → Ex H H' → Sim c O ρ σ F' H' → DdAll (c.pw b) F' vs ds → Q vs H') → ta σ H Q
def EvLN {K : PySem.W.Frag} (c : Cq K) (b : Bool) (te : TE) (ρ : Rho) (P : List PyData → Prop) : Prop := ∀ (O : Addr → Prop) (σ : St) (F H : Hp), Sim c O ρ σ F H → ∀ Q : VK,
  (∀ ds p xs F' H', P ds → Ex F F' → Ex H H' → Sim c O ρ σ F' H' → H p = none → F' p = none → H' p = some (.lst xs) → NotOwn ρ σ p → DdAll (c.pw b) F' xs ds → Q (.ref p) H') → te σ H Q
section
variable {K : PySem.W.Frag} {c : Cq K} {B : Hp} {b b' : Bool} {ρ ρ' : Rho} {D : Ends} {t u w tz : TS} {te ta to ti tl : TE} {tt : TT} {d : PyData} {ds es : List PyData} {i j : Nat} {g : TG} {js : List Nat} {tr : TA} {P : PyData → Prop} {PA : List PyData → Prop}
theorem Ev.n (h : Ev c b te ρ d) (p : P d) : EvN c b te ρ P := fun O σ F H S Q k => h O σ F H S Q fun v F' H' e1 e2 S' dd => k d v F' H' p e1 e2 S' dd
theorem EvA.n (h : EvA c tr ρ ds) (p : PA ds) : EvAN c tr ρ PA := fun O σ F H S Q k => h O σ F H S Q fun v F' H' e1 e2 S' dd => k ds v F' H' p e1 e2 S' dd
theorem EvAF.n (h : EvAF c b tr ρ ds) (p : PA ds) : EvFN c b tr ρ PA := fun O σ F H S Q k => h O σ F H S Q fun v F' H' e1 e2 S' dd => k ds v F' H' p e1 e2 S' dd
theorem EvN.mono {P' : PyData → Prop} (h : EvN c b te ρ P) (p : ∀ d, P d → P' d) : EvN c b te ρ P' := fun O σ F H S Q k => h O σ F H S Q fun d v F' H' q e1 e2 S' dd => k d v F' H' (p d q) e1 e2 S' dd
theorem EvN.weak (h : EvN c true te ρ P) : EvN c false te ρ P := fun O σ F H S Q k => h O σ F H S Q fun d v F' H' q e1 e2 S' dd => k d v F' H' q e1 e2 S' (dd.up Cq.more (Evl.Ex.refl _))
theorem EvAN.mono {P' : List PyData → Prop} (h : EvAN c tr ρ PA) (p : ∀ d, PA d → P' d) : EvAN c tr ρ P' := fun O σ F H S Q k => h O σ F H S Q fun d v F' H' q e1 e2 S' dd => k d v F' H' (p d q) e1 e2 S' dd
/-- args: a first one known by what holds of it -/
theorem ea_consN {P' : List PyData → Prop} (h : EvN c b te ρ P) (hr : ∀ d, P d → EvAN c tr ρ fun ds => P' (d :: ds)) : EvAN c (tCons te tr) ρ P' := fun O σ F H S Q k =>
  h O σ F H S _ fun d v F1 H1 p e1 h1 S1 d1 => hr d p O σ F1 H1 S1 _ fun ds vs F2 H2 p2 e2 h2 S2 d2 => k _ _ F2 H2 p2 (e1.trans e2) (h1.trans h2) S2 (.cons ((d1.ex e2).all Cq.kl S2.ff) d2)
theorem ea_consD {P' : List PyData → Prop} (h : EvR c te ρ d) (hr : EvAN c tr ρ fun ds => P' (d :: ds)) : EvAN c (tCons te tr) ρ P' := fun O σ F H S Q k =>
  h O σ F H S _ fun v F1 H1 e1 h1 S1 d1 => hr O σ F1 H1 S1 _ fun ds vs F2 H2 p2 e2 h2 S2 d2 => k _ _ F2 H2 p2 (e1.trans e2) (h1.trans h2) S2 (.cons (d1.ex h2) d2)
theorem ef_consN {P' : List PyData → Prop} (h : EvN c b te ρ P) (hr : ∀ d, P d → EvFN c b tr ρ fun ds => P' (d :: ds)) : EvFN c b (tCons te tr) ρ P' := fun O σ F H S Q k =>
  h O σ F H S _ fun d v F1 H1 p e1 h1 S1 d1 => hr d p O σ F1 H1 S1 _ fun ds vs F2 H2 p2 e2 h2 S2 d2 => k _ _ F2 H2 p2 (e1.trans e2) (h1.trans h2) S2 (.cons (d1.ex e2) d2)
theorem ef_consD {P' : List PyData → Prop} (h : Ev c b te ρ d) (hr : EvFN c b tr ρ fun ds => P' (d :: ds)) : EvFN c b (tCons te tr) ρ P' := fun O σ F H S Q k =>
  h O σ F H S _ fun v F1 H1 e1 h1 S1 d1 => hr O σ F1 H1 S1 _ fun ds vs F2 H2 p2 e2 h2 S2 d2 => k _ _ F2 H2 p2 (e1.trans e2) (h1.trans h2) S2 (.cons (d1.ex e2) d2)
theorem el_lstN (h : EvFN c b tr ρ PA) (hl : ∀ ds, PA ds → ds.length ≤ 100000) : EvLN c b (tLst tr) ρ PA := fun O σ F H S Q k => h O σ F H S _ fun ds vs F1 H1 p1 e1 h1 S1 d1 =>
  ⟨Evl.sz_of (by rw [d1.length]; exact hl _ p1), fun p hp => k ds p vs F1 _ p1 e1 (h1.trans (Evl.Ex.new hp)) (S1.lay hp) (Evl.fresh_back h1 hp) (S1.fresh hp) upd_same (S1.notOwn hp) d1⟩
theorem EvL.n (h : EvL c b te ρ ds) (p : PA ds) : EvLN c b te ρ PA := fun O σ F H S Q k => h O σ F H S Q fun a xs F' H' e1 e2 S' hp fp at_ no dd => k ds a xs F' H' p e1 e2 S' hp fp at_ no dd
theorem EvLN.mono {P' : List PyData → Prop} (h : EvLN c b te ρ PA) (p : ∀ d, PA d → P' d) : EvLN c b te ρ P' := fun O σ F H S Q k => h O σ F H S Q fun ds a xs F' H' p1 e1 e2 S' hp fp at_ no dd => k ds a xs F' H' (p ds p1) e1 e2 S' hp fp at_ no dd
/-- a new list, frozen -/
theorem EvLN.ev (h : EvLN c b te ρ PA) : EvN c b te ρ (fun d => ∃ ds, d = .list ds ∧ PA ds) := fun O σ F H S Q k => h O σ F H S Q fun ds p xs F' H' p1 e1 e2 S' hp fp h1 ow dd => by
  have n0 : c.H0 p = none := Evl.fresh_back S.bb hp
  have ef : Ex F' (upd F' p (.lst xs)) := Evl.Ex.new fp
  have ff : Ex (upd F' p (.lst xs)) H' := fun a o e => by
    by_cases z : a = p
    · subst z; rw [upd_same] at e; cases e; exact h1
    · rw [upd_ne z] at e; exact S'.ff a o e
  refine k _ _ (upd F' p (.lst xs)) H' ⟨ds, rfl, p1⟩ (e1.trans ef) e2 ⟨S'.base.trans ef, ff, fun a h => ⟨by rw [upd_ne (fun z => (S.prot a h).2 (by rw [z]; exact hp))]; exact (S'.prot a h).1, (S'.prot a h).2⟩, S'.len, fun i s o hi ho => ?_, S'.apart⟩ (.lst (.inl ⟨Cq.any n0, .inl upd_same⟩) (dd.ex ef))
  exact (S'.sl i s o hi ho).move ef fun a ha => ⟨by rw [upd_ne (fun z => ow i s o hi ho (by rw [← z]; exact ha))]; exact ((S'.sl i s o hi ho).owned ha).1, rfl⟩
/-! statements -/
theorem go_valN (h : EvN c b te ρ P) (k : ∀ d, P d → Nx c B D (ρ.set i (.val b d))) : Go c B (tAsg te (gName i)) D ρ := fun O σ F H e S =>
  h O σ F H S _ fun d v F1 H1 p e1 h1 S1 d1 => tg_name O σ F1 H1 v S1 d1 _ fun σ' _ _ S2 => k d p O σ' F1 H1 (e.trans e1) S2
theorem q_valN (h : EvN c b te ρ P) (k : ∀ d, P d → Go c B tz D (ρ.set i (.val b d))) : Go c B (tSeq (tAsg te (gName i)) tz) D ρ := go_valN (D := { D with nx := tz D }) h k
theorem go_tgN (h : EvN c b te ρ P) (k : ∀ d, P d → ∃ js ρ', TgOk c b g js ρ d ρ' ∧ Nx c B D ρ') : Go c B (tAsg te g) D ρ := fun O σ F H e S =>
  h O σ F H S _ fun d v F1 H1 p e1 h1 S1 d1 => by
    obtain ⟨js, ρ', tg, k⟩ := k d p
    exact tg O σ F1 H1 v S1 d1 _ fun σ' _ _ S2 => k O σ' F1 H1 (e.trans e1) S2
theorem q_tgN (h : EvN c b te ρ P) (k : ∀ d, P d → ∃ js ρ', TgOk c b g js ρ d ρ' ∧ Go c B tz D ρ') : Go c B (tSeq (tAsg te g) tz) D ρ := go_tgN (D := { D with nx := tz D }) h k
theorem go_ownN (h : EvLN c b te ρ PA) (k : ∀ ds, PA ds → Nx c B D (ρ.set i (.own b ds))) : Go c B (tAsg te (gName i)) D ρ := fun O σ F H e S =>
  h O σ F H S _ fun ds p xs F1 H1 p1 e1 h1 S1 hp fp at_ no d1 => k ds p1 O _ F1 H1 (e.trans e1) (S1.setOwn i fp at_ no d1)
theorem q_ownN (h : EvLN c b te ρ PA) (k : ∀ ds, PA ds → Go c B tz D (ρ.set i (.own b ds))) : Go c B (tSeq (tAsg te (gName i)) tz) D ρ := go_ownN (D := { D with nx := tz D }) h k
theorem go_retEN (h : EvN c true te ρ P) (k : ∀ d, P d → Rt c D.rt d) : Go c B (tRet te) D ρ := fun O σ F H e S => h O σ F H S _ fun d v F1 H1 p e1 h1 S1 d1 => k d p v H1 S1.bb (d1.ex S1.ff)
theorem go_insertN {k0 : Int} (h : ρ[i]? = some (.own b ds)) (hi : EvR c ti ρ (.int k0)) (hd : EvN c b te ρ P) (hz : ds.length < 100000) (h0 : 0 ≤ k0 ∧ k0 < 2 ^ 63) (k : ∀ d, P d → Nx c B D (ρ.set i (.own b (ds.take k0.toNat ++ [d] ++ ds.drop k0.toNat)))) :
    Go c B (tDrop (tBM K "list" rInsert (tVar i) (tCons ti (tCons te tNil)))) D ρ := fun O σ F H e S => by
  obtain ⟨o, ho, a, xs, eo, f0, h1, dd⟩ := S.get h
  subst eo
  refine ⟨_, ho, .inl ⟨rfl, _, .inl (.inl h1)⟩, hi O σ F H S _ fun v F1 H1 e1 g1 S1 d1 => hd O σ F1 H1 S1 _ fun d v2 F2 H2 p e2 g2 S2 d2 => ?_⟩
  cases d1
  have h2 := g2 _ _ (g1 _ _ h1)
  have dd2 := dd.ex (e1.trans e2)
  exact ⟨a, xs, k0, v2, rfl, rfl, h2, Evl.sz_lt (by rw [dd.length]; exact hz), h0.1, h0.2, k d p O σ F2 _ (e.trans (e1.trans e2)) (S2.write h ho h2 (((dd2.take _).append (.one d2)).append (dd2.drop _)))⟩
theorem q_insertN {k0 : Int} (h : ρ[i]? = some (.own b ds)) (hi : EvR c ti ρ (.int k0)) (hd : EvN c b te ρ P) (hz : ds.length < 100000) (h0 : 0 ≤ k0 ∧ k0 < 2 ^ 63) (k : ∀ d, P d → Go c B tz D (ρ.set i (.own b (ds.take k0.toNat ++ [d] ++ ds.drop k0.toNat)))) :
    Go c B (tSeq (tDrop (tBM K "list" rInsert (tVar i) (tCons ti (tCons te tNil)))) tz) D ρ := go_insertN (D := { D with nx := tz D }) h hi hd hz h0 k
theorem go_appN (h : ρ[i]? = some (.own b ds)) (hd : EvN c b te ρ P) (hz : ds.length < 100000) (k : ∀ d, P d → Nx c B D (ρ.set i (.own b (ds ++ [d])))) : Go c B (tDrop (tBM K "list" rAppend (tVar i) (tCons te tNil))) D ρ := fun O σ F H e S => by
  obtain ⟨o, ho, a, xs, eo, f0, h1, dd⟩ := S.get h
  subst eo
  refine ⟨_, ho, .inl ⟨rfl, _, .inl (.inl h1)⟩, hd O σ F H S _ fun d v F1 H1 p e1 g1 S1 d1 => ?_⟩
  have h2 := g1 _ _ h1
  exact ⟨a, xs, v, rfl, rfl, h2, Evl.sz_lt (by rw [dd.length]; exact hz), k d p O σ F1 _ (e.trans e1) (S1.write h ho h2 ((dd.ex e1).append (.one d1)))⟩
theorem q_appN (h : ρ[i]? = some (.own b ds)) (hd : EvN c b te ρ P) (hz : ds.length < 100000) (k : ∀ d, P d → Go c B tz D (ρ.set i (.own b (ds ++ [d])))) : Go c B (tSeq (tDrop (tBM K "list" rAppend (tVar i) (tCons te tNil))) tz) D ρ := go_appN (D := { D with nx := tz D }) h hd hz k
theorem go_forN {α : Type} {enc : α → PyData} {tb : TS} (PX : List α → Prop) (h : EvN c b tl ρ (fun d => ∃ xs : List α, d = .list (xs.map enc) ∧ PX xs))
    (hx : ∀ xs, PX xs → ∃ I : Nat → Rho → Prop, I 0 ρ ∧
      (∀ (B' : Hp) (i : Nat) (x : α) (ρ1 : Rho), xs[i]? = some x → I i ρ1 → ∃ js ρ2, TgOk c b g js ρ1 (enc x) ρ2 ∧ Go c B' tb { D with nx := Pst c B' (I (i + 1)), ct := Pst c B' (I (i + 1)), bk := D.nx } ρ2) ∧
      (∀ ρ1, I xs.length ρ1 → Nx c B D ρ1)) : Go c B (tFor (iList K tl) g tb) D ρ := fun O σ F H e S => by
  refine h O σ F H S _ fun d v F1 H1 p e1 h1 S1 d1 => ?_
  obtain ⟨xs, rfl, px⟩ := p
  obtain ⟨I, h0, hs, hd⟩ := hx xs px
  have hv : ∃ a, v = .ref a := by cases d1; exact ⟨_, rfl⟩
  cases d1 with
  | lst r dd =>
    rename_i a xv
    refine ⟨a, rfl, ⟨xv, dd_sq Cq.kl S1.ff r⟩, ?_⟩
    have lenx : xv.length = xs.length := by rw [dd.length, List.length_map]
    refine for_list (K := K) (a := a) (xs := xv) (fun i σ' H' => Pst c F1 (I i) σ' H') ⟨O, F1, ρ, Evl.Ex.refl _, S1, h0⟩ ?_ ?_ ?_
    · rintro i σ' H' hi ⟨O', F', ρ1, e', S', _⟩
      exact dd_sq Cq.kl (e'.trans S'.ff) r
    · rintro i x σ' H' hx ⟨O', F', ρ1, e', S', iv⟩
      obtain ⟨d, hd', dx⟩ := dd.getV hx
      rw [List.getElem?_map] at hd'
      cases hu : xs[i]? with
      | none => rw [hu] at hd'; cases hd'
      | some uu =>
        rw [hu] at hd'
        cases hd'
        obtain ⟨js, ρ2, tg, go⟩ := hs F1 i uu ρ1 hu iv
        exact tg O' σ' F' H' x S' (dx.ex e') _ fun σ2 _ _ S2 => go O' σ2 F' H' e' S2
    · rintro σ' H' ⟨O', F', ρ1, e', S', iv⟩
      rw [lenx] at iv
      exact hd ρ1 iv O' σ' F' H' (e.trans (e1.trans e')) S'
theorem q_forN {α : Type} {enc : α → PyData} {tb : TS} (PX : List α → Prop) (h : EvN c b tl ρ (fun d => ∃ xs : List α, d = .list (xs.map enc) ∧ PX xs))
    (hx : ∀ xs, PX xs → ∃ I : Nat → Rho → Prop, I 0 ρ ∧
      (∀ (B' : Hp) (i : Nat) (x : α) (ρ1 : Rho), xs[i]? = some x → I i ρ1 → ∃ js ρ2, TgOk c b g js ρ1 (enc x) ρ2 ∧ Go c B' tb { D with nx := Pst c B' (I (i + 1)), ct := Pst c B' (I (i + 1)), bk := tz D } ρ2) ∧
      (∀ ρ1, I xs.length ρ1 → Go c B tz D ρ1)) : Go c B (tSeq (tFor (iList K tl) g tb) tz) D ρ := go_forN (D := { D with nx := tz D }) PX h hx
end
/-! promises -/
/-- data made anew of which R holds -/
def spN (K : PySem.W.Frag) (P : List PyData → Prop) (R : List PyData → PyData → Prop) : Sp := fun vs H Q _ => ∃ ds, DdAll (T1 K) H vs ds ∧ P ds ∧ ∀ r v H', R ds r → Ex H H' → Dd (only fun a => H a = none) H' v r → Q v H'
/-- a list that the caller may change -/
def spM (K : PySem.W.Frag) (P : List PyData → Prop) (R : List PyData → List PyData → Prop) : Sp := fun vs H Q _ => ∃ ds, DdAll (T1 K) H vs ds ∧ P ds ∧ ∀ r p xs H', R ds r → Ex H H' → H p = none → H' p = some (.lst xs) → DdAll (only fun a => H a = none ∧ a ≠ p) H' xs r → Q (.ref p) H'
section
variable {K : PySem.W.Frag} {c : Cq K} {b b' : Bool} {ρ : Rho} {ta : TA} {ds : List PyData} {r : PyData} {PP : List PyData → Prop} {R : List PyData → PyData → Prop} {RL : List PyData → List PyData → Prop} {E : XK}
theorem ev_callN (h : EvA c ta ρ ds) (hP : PP ds) : EvN c b (tCall (spN K PP R) [] E ta) ρ (R ds) := fun O σ F H S Q k => h O σ F H S _ fun vs F1 H1 e1 h1 S1 d1 => by
  refine ⟨ds, by rw [List.append_nil]; exact d1, hP, fun r v H' hR e2 dd => ?_⟩
  exact k r v _ H' hR (e1.trans (addF_ex S1.ff)) (h1.trans e2) (S1.add e2) (dd.add S1 b)
theorem ev_callNN (h : EvAN c ta ρ PP) : EvN c b (tCall (spN K PP R) [] E ta) ρ (fun r => ∃ ds, PP ds ∧ R ds r) := fun O σ F H S Q k => h O σ F H S _ fun ds vs F1 H1 hP e1 h1 S1 d1 => by
  refine ⟨ds, by rw [List.append_nil]; exact d1, hP, fun r v H' hR e2 dd => ?_⟩
  exact k r v _ H' ⟨ds, hP, hR⟩ (e1.trans (addF_ex S1.ff)) (h1.trans e2) (S1.add e2) (dd.add S1 b)
theorem el_callN' {PA : List PyData → Prop} (h : EvAN c ta ρ PA) (hP : ∀ ds, PA ds → PP ds) : EvLN c b (tCall (spM K PP RL) [] E ta) ρ (fun rl => ∃ ds, PA ds ∧ RL ds rl) := fun O σ F H S Q k => h O σ F H S _ fun ds vs F1 H1 pa e1 h1 S1 d1 => by
  refine ⟨ds, by rw [List.append_nil]; exact d1, hP ds pa, fun rl p xs H' hR e2 hp at_ dd => ?_⟩
  have f1 : F1 p = none := S1.fresh hp
  let F2 : Hp := fun a => if a = p then none else addF F1 H1 H' a
  have ef : Ex F1 F2 := fun a o q => by
    show (if a = p then none else addF F1 H1 H' a) = some o
    rw [if_neg (fun z => by rw [z, f1] at q; cases q)]
    exact addF_ex S1.ff a o q
  have ff : Ex F2 H' := fun a o q => by
    have q' : (if a = p then none else addF F1 H1 H' a) = some o := q
    split at q'
    · cases q'
    · exact addF_sub S1.ff e2 a o q'
  have S2 : Sim c O ρ σ F2 H' := S1.grow ef e2 (fun a hn f0 => by
    show (if a = p then none else addF F1 H1 H' a) = none
    split
    · rfl
    · rw [addF_old hn]; exact f0) ff
  refine k rl p xs F2 H' ⟨ds, pa, hR⟩ (e1.trans ef) (h1.trans e2) S2 (Evl.fresh_back h1 hp) (if_pos rfl) at_ (S.notOwn (Evl.fresh_back h1 hp)) ?_
  refine dd.mono (fun a u (pa : H1 a = none ∧ a ≠ p) ra => ⟨Cq.any (Evl.fresh_back S1.bb pa.1), ?_⟩) fun _ _ (h : False) => h.elim
  have z : F2 a = addF F1 H1 H' a := if_neg pa.2
  exact z.trans ((addF_new pa.1).trans ra)
theorem el_callN (h : EvA c ta ρ ds) (hP : PP ds) : EvLN c b (tCall (spM K PP RL) [] E ta) ρ (RL ds) :=
  (el_callN' (PA := fun x => x = ds) (h.n rfl) fun _ e => e ▸ hP).mono fun rl ⟨_, e, h⟩ => e ▸ h
theorem el_callNN (h : EvAN c ta ρ PP) : EvLN c b (tCall (spM K PP RL) [] E ta) ρ (fun rl => ∃ ds, PP ds ∧ RL ds rl) := el_callN' h fun _ h => h
theorem enterN {N : List Str} {t : TS} {vs : List V} {H : Hp} {Q : VK} (h : spN K PP R vs H Q E) (hN : ∀ ds, PP ds → ds.length ≤ N.length)
    (body : ∀ (c : Cq K) ds, PP ds → (∀ r, R ds r → Rt c Q r) → Go c c.H0 t { nx := fun _ H' => Q .non H', rt := Q } (ds.map (Sl.val false) ++ List.replicate (N.length - ds.length) Sl.no)) : t { nx := fun _ H' => Q .non H', rt := Q } (L2.start N vs) H := by
  obtain ⟨ds, hd, hP, k⟩ := h
  exact body ⟨H, fun a => H a = none, fun _ h => h⟩ ds hP (fun r hR v H' e dd => k r v H' hR e dd) _ _ H H (Evl.Ex.refl _) (enter_sim hd (by rw [hd.length]; exact hN _ hP))
theorem enterM {N : List Str} {t : TS} {vs : List V} {H : Hp} {Q : VK} (h : spM K PP RL vs H Q E) (hN : ∀ ds, PP ds → ds.length ≤ N.length)
    (body : ∀ (c : Cq K) ds, (∀ a, c.NW a → c.H0 a = none) → PP ds → (∀ r, RL ds r → RtL c Q r) → Go c c.H0 t { nx := fun _ H' => Q .non H', rt := Q } (ds.map (Sl.val false) ++ List.replicate (N.length - ds.length) Sl.no)) : t { nx := fun _ H' => Q .non H', rt := Q } (L2.start N vs) H := by
  obtain ⟨ds, hd, hP, k⟩ := h
  exact body ⟨H, fun a => H a = none, fun _ h => h⟩ ds (fun _ h => h) hP (fun r hR p xs H' e hp at_ dd => k r p xs H' hR e hp at_ dd) _ _ H H (Evl.Ex.refl _) (enter_sim hd (by rw [hd.length]; exact hN _ hP))
end
section
variable {P : Program} {w : World} {K : PySem.W.Frag} {mg : Str → Option Value} {base : Heap} {x : Str} {st : Stmt} {N ps : List Str} {k : Nat} {PP : List PyData → Prop}
theorem cl_N {R : List PyData → PyData → Prop} (D : Dfn K mg x st ps) (S : FnScope N ps (defScope st)) (hlen : ∀ ds, PP ds → ds.length = ps.length)
    (hbody : ∀ (f : Addr) (cdv : Value) (A : Around) (outer : List Env) (s : Shared) (H : Hp) (E : XK), Room k (A.deeper (envOfC x (defScope st) s.heap.objs.size f cdv)) →
      ∃ t, PSs (cxOf CX0 P w K mg base N x (defScope st) f cdv A outer s H E).nox (defBody st) t ∧ ∀ (Q : VK) (c : Cq K) ds, PP ds → (∀ r, R ds r → Rt c Q r) → Go c c.H0 t { nx := fun _ H' => Q .non H', rt := Q } (ds.map (Sl.val false) ++ List.replicate (N.length - ds.length) Sl.no)) :
    Cl P w K mg base CX0 (k + 1) x (spN K PP R) := by
  obtain ⟨f, fd, F, hm, b⟩ := D.ex
  refine ⟨f, fd, ps, F.ok S (fun vs H Q E h => ?_) (fun cdv A outer s H vs Q E hr h => ?_), hm, F.kp, b⟩
  · obtain ⟨ds, hd, hP, _⟩ := h
    rw [hd.length]; exact hlen _ hP
  · obtain ⟨t, h1, h2⟩ := hbody f cdv A outer s H E hr
    have hpl : ps.length ≤ N.length := by have := congrArg List.length S.pre; rw [List.length_take] at this; omega
    exact ⟨t, h1, enterN (E := E) h (fun ds hP => by rw [hlen _ hP]; exact hpl) fun c ds hP hQ => h2 Q c ds hP hQ⟩
theorem cl_M {R : List PyData → List PyData → Prop} (D : Dfn K mg x st ps) (S : FnScope N ps (defScope st)) (hlen : ∀ ds, PP ds → ds.length = ps.length)
    (hbody : ∀ (f : Addr) (cdv : Value) (A : Around) (outer : List Env) (s : Shared) (H : Hp) (E : XK), Room k (A.deeper (envOfC x (defScope st) s.heap.objs.size f cdv)) →
      ∃ t, PSs (cxOf CX0 P w K mg base N x (defScope st) f cdv A outer s H E).nox (defBody st) t ∧ ∀ (Q : VK) (c : Cq K) ds, (∀ a, c.NW a → c.H0 a = none) → PP ds → (∀ r, R ds r → RtL c Q r) → Go c c.H0 t { nx := fun _ H' => Q .non H', rt := Q } (ds.map (Sl.val false) ++ List.replicate (N.length - ds.length) Sl.no)) :
    Cl P w K mg base CX0 (k + 1) x (spM K PP R) := by
  obtain ⟨f, fd, F, hm, b⟩ := D.ex
  refine ⟨f, fd, ps, F.ok S (fun vs H Q E h => ?_) (fun cdv A outer s H vs Q E hr h => ?_), hm, F.kp, b⟩
  · obtain ⟨ds, hd, hP, _⟩ := h
    rw [hd.length]; exact hlen _ hP
  · obtain ⟨t, h1, h2⟩ := hbody f cdv A outer s H E hr
    have hpl : ps.length ≤ N.length := by have := congrArg List.length S.pre; rw [List.length_take] at this; omega
    exact ⟨t, h1, enterM (E := E) h (fun ds hP => by rw [hlen _ hP]; exact hpl) fun c ds hc hP hQ => h2 Q c ds hc hP hQ⟩
end
/-! results that share objects with arguments -/
inductive DdM (K : PySem.W.Frag) (Z : Addr → Prop) (H : Hp) : List Bool → List V → List PyData → Prop
  | nil : DdM K Z H [] [] []
  | new {v : V} {d : PyData} {ms : List Bool} {vs : List V} {ds : List PyData} : Dd (only Z) H v d → DdM K Z H ms vs ds → DdM K Z H (true :: ms) (v :: vs) (d :: ds)
  | any {v : V} {d : PyData} {ms : List Bool} {vs : List V} {ds : List PyData} : Dd (T1 K) H v d → DdM K Z H ms vs ds → DdM K Z H (false :: ms) (v :: vs) (d :: ds)
inductive DdMM {K : PySem.W.Frag} (c : Cq K) (F H : Hp) : List Bool → List V → List PyData → Prop
  | nil : DdMM c F H [] [] []
  | new {v : V} {d : PyData} {ms : List Bool} {vs : List V} {ds : List PyData} : Dd (c.pw true) F v d → DdMM c F H ms vs ds → DdMM c F H (true :: ms) (v :: vs) (d :: ds)
  | any {v : V} {d : PyData} {ms : List Bool} {vs : List V} {ds : List PyData} : Dd (T1 K) H v d → DdMM c F H ms vs ds → DdMM c F H (false :: ms) (v :: vs) (d :: ds)
theorem DdM.lens {K : PySem.W.Frag} {Z : Addr → Prop} {H : Hp} : ∀ {ms : List Bool} {vs : List V} {ds : List PyData}, DdM K Z H ms vs ds → vs.length = ds.length ∧ ms.length = ds.length
  | _, _, _, .nil => ⟨rfl, rfl⟩
  | _, _, _, .new _ h => by have := DdM.lens h; simp [this.1, this.2]
  | _, _, _, .any _ h => by have := DdM.lens h; simp [this.1, this.2]
theorem rd_some {H : Hp} {a : Addr} {u : HO} (h : Rd H a u) : H a ≠ none := by
  rcases h with h | ⟨o, h⟩ <;> rw [h] <;> simp
theorem DdMM.m {K : PySem.W.Frag} {c : Cq K} {F H : Hp} (e : Ex F H) : ∀ {ms : List Bool} {vs : List V} {ds : List PyData}, DdMM c F H ms vs ds → DdM K (fun a => c.NW a ∧ F a ≠ none) H ms vs ds
  | _, _, _, .nil => .nil
  | _, _, _, .new (v := v) (d := x) d h =>
    have q : Dd (only fun a => c.NW a ∧ F a ≠ none) H v x := d.mono (fun a u (p : c.NW a) r => show (c.NW a ∧ F a ≠ none) ∧ H a = some u from ⟨⟨p, by rw [r]; simp⟩, e a u r⟩) fun _ _ (h : False) => h.elim
    .new q (DdMM.m e h)
  | _, _, _, .any d h => .any d (DdMM.m e h)
/-- data made anew, or of the marked arguments -/
def spS (K : PySem.W.Frag) (ms : List Bool) (P : List PyData → Prop) (R : List PyData → PyData → Prop) : Sp := fun vs H Q _ => ∃ Z ds, DdM K Z H ms vs ds ∧ P ds ∧ ∀ r v H', R ds r → Ex H H' → Dd (only fun a => H a = none ∨ Z a) H' v r → Q v H'
def EvAM {K : PySem.W.Frag} (c : Cq K) (ms : List Bool) (ta : TA) (ρ : Rho) (ds : List PyData) : Prop := ∀ (O : Addr → Prop) (σ : St) (F H : Hp), Sim c O ρ σ F H → ∀ Q : List V → Hp → Prop, (∀ vs F' H', Ex F F' → Ex H H' → Sim c O ρ σ F' H' → DdMM c F' H' ms vs ds → Q vs H') → ta σ H Q
section
variable {K : PySem.W.Frag} {c : Cq K} {b b' : Bool} {ρ : Rho} {te : TE} {ta : TA} {d : PyData} {ms : List Bool} {ds : List PyData} {r : PyData} {PP : List PyData → Prop} {R : List PyData → PyData → Prop} {E : XK}
theorem em_nil : EvAM c [] tNil ρ [] := fun O σ F H S Q k => k _ F H (Evl.Ex.refl _) (Evl.Ex.refl _) S .nil
theorem em_new (h : Ev c true te ρ d) (hr : EvAM c ms ta ρ ds) : EvAM c (true :: ms) (tCons te ta) ρ (d :: ds) := fun O σ F H S Q k =>
  h O σ F H S _ fun v F1 H1 e1 h1 S1 d1 => hr O σ F1 H1 S1 _ fun vs F2 H2 e2 h2 S2 d2 => k _ F2 H2 (e1.trans e2) (h1.trans h2) S2 (.new (d1.ex e2) d2)
theorem em_any (h : EvR c te ρ d) (hr : EvAM c ms ta ρ ds) : EvAM c (false :: ms) (tCons te ta) ρ (d :: ds) := fun O σ F H S Q k =>
  h O σ F H S _ fun v F1 H1 e1 h1 S1 d1 => hr O σ F1 H1 S1 _ fun vs F2 H2 e2 h2 S2 d2 => k _ F2 H2 (e1.trans e2) (h1.trans h2) S2 (.any (d1.ex h2) d2)
theorem ev_callS (h : EvAM c ms ta ρ ds) (hP : PP ds) : EvN c true (tCall (spS K ms PP R) [] E ta) ρ (R ds) := fun O σ F H S Q k => h O σ F H S _ fun vs F1 H1 e1 h1 S1 d1 => by
  refine ⟨_, ds, by rw [List.append_nil]; exact d1.m S1.ff, hP, fun r v H' hR e2 dd => ?_⟩
  refine k r v _ H' hR (e1.trans (addF_ex S1.ff)) (h1.trans e2) (S1.add e2) ?_
  refine dd.mono (fun a u p ra => ?_) fun _ _ (h : False) => h.elim
  rcases p with p | ⟨p, q⟩
  · exact ⟨Cq.any (b := true) (Evl.fresh_back S1.bb p), (addF_new p).trans ra⟩
  · refine ⟨p, ?_⟩
    have n1 : H1 a ≠ none := fun z => q (Evl.fresh_back S1.ff z)
    cases eF : F1 a with
    | none => exact absurd eF q
    | some o =>
      have g := e2 a o (S1.ff a o eF)
      have z : addF F1 H1 H' a = some o := by rw [addF_old n1]; exact eF
      rw [z]; rw [g] at ra; exact ra
def startM (ms : List Bool) (ds : List PyData) : Rho := (ds.zip ms).map fun x => Sl.val x.2 x.1
theorem DdM.start {Z : Addr → Prop} {H : Hp} {NW : Addr → Prop} {ok : ∀ a, H a = none → NW a} (hz : ∀ a, Z a → NW a) : ∀ {ms : List Bool} {vs : List V} {ds : List PyData}, DdM K Z H ms vs ds → ∀ (i : Nat) (s : Sl) (o : Option V), (startM ms ds)[i]? = some s → (vs.map some)[i]? = some o → SlOk (K := K) ⟨H, NW, ok⟩ H H s o
  | _, _, _, .nil, i, s, o, h, _ => by simp [startM] at h
  | _, _, _, .new d h, 0, s, o, h1, h2 => by
    simp [startM] at h1 h2
    subst h1 h2
    exact ⟨_, rfl, d.mono (fun a u p r => ⟨hz a p, r⟩) fun _ _ (h : False) => h.elim⟩
  | _, _, _, .any d h, 0, s, o, h1, h2 => by
    simp [startM] at h1 h2
    subst h1 h2
    exact ⟨_, rfl, d⟩
  | _, _, _, .new d h, i + 1, s, o, h1, h2 => DdM.start hz h i s o (by simpa [startM] using h1) (by simpa using h2)
  | _, _, _, .any d h, i + 1, s, o, h1, h2 => DdM.start hz h i s o (by simpa [startM] using h1) (by simpa using h2)
theorem startM_own {ms : List Bool} {ds : List PyData} {i : Nat} {s : Sl} (h : (startM ms ds)[i]? = some s) (o : Option V) (a : Addr) : ¬ s.Owns o a := by
  unfold startM at h
  rw [List.getElem?_map] at h
  cases q : (ds.zip ms)[i]? with
  | none => rw [q] at h; cases h
  | some x => rw [q] at h; cases h; exact fun h => h
theorem enterS {N : List Str} {t : TS} {vs : List V} {H : Hp} {Q : VK} (h : spS K ms PP R vs H Q E) (hN : ∀ ds, PP ds → ds.length ≤ N.length)
    (body : ∀ (c : Cq K) ds, PP ds → (∀ r, R ds r → Rt c Q r) → Go c c.H0 t { nx := fun _ H' => Q .non H', rt := Q } (startM ms ds ++ List.replicate (N.length - ds.length) Sl.no)) : t { nx := fun _ H' => Q .non H', rt := Q } (L2.start N vs) H := by
  obtain ⟨Z, ds, hd, hP, k⟩ := h
  have hl := hd.lens
  have hn := hN ds hP
  have sl : (startM ms ds).length = ds.length := by unfold startM; rw [List.length_map, List.length_zip, hl.2, Nat.min_self]
  refine body ⟨H, fun a => H a = none ∨ Z a, fun _ h => .inl h⟩ ds hP (fun r hR v H' e dd => k r v H' hR e dd) (fun _ => False) _ H H (Evl.Ex.refl _) ⟨Evl.Ex.refl _, Evl.Ex.refl _, fun _ h => h.elim, by simp [L2.start, hl, sl], fun i s o h1 h2 => ?_, fun i j s t o o' a h1 h2 h3 h4 h5 => ?_⟩
  · by_cases hi : i < ds.length
    · rw [List.getElem?_append_left (by rw [sl]; exact hi)] at h1
      unfold L2.start at h2
      rw [List.getElem?_append_left (by rw [List.length_map]; omega)] at h2
      exact hd.start (fun a h => .inr h) i s o h1 h2
    · rw [List.getElem?_append_right (by rw [sl]; omega), List.getElem?_replicate] at h1
      split at h1
      · cases h1; trivial
      · cases h1
  · exfalso
    by_cases hi : i < ds.length
    · rw [List.getElem?_append_left (by rw [sl]; exact hi)] at h1
      exact startM_own h1 o a h5
    · rw [List.getElem?_append_right (by rw [sl]; omega), List.getElem?_replicate] at h1
      split at h1
      · cases h1; exact h5
      · cases h1
end
section
variable {P : Program} {w : World} {K : PySem.W.Frag} {mg : Str → Option Value} {base : Heap} {x : Str} {st : Stmt} {N ps : List Str} {k : Nat} {PP : List PyData → Prop} {ms : List Bool}
theorem cl_S {R : List PyData → PyData → Prop} (D : Dfn K mg x st ps) (S : FnScope N ps (defScope st)) (hlen : ∀ ds, PP ds → ds.length = ps.length)
    (hbody : ∀ (f : Addr) (cdv : Value) (A : Around) (outer : List Env) (s : Shared) (H : Hp) (E : XK), Room k (A.deeper (envOfC x (defScope st) s.heap.objs.size f cdv)) →
      ∃ t, PSs (cxOf CX0 P w K mg base N x (defScope st) f cdv A outer s H E).nox (defBody st) t ∧ ∀ (Q : VK) (c : Cq K) ds, PP ds → (∀ r, R ds r → Rt c Q r) → Go c c.H0 t { nx := fun _ H' => Q .non H', rt := Q } (startM ms ds ++ List.replicate (N.length - ds.length) Sl.no)) :
    Cl P w K mg base CX0 (k + 1) x (spS K ms PP R) := by
  obtain ⟨f, fd, F, hm, b⟩ := D.ex
  refine ⟨f, fd, ps, F.ok S (fun vs H Q E h => ?_) (fun cdv A outer s H vs Q E hr h => ?_), hm, F.kp, b⟩
  · obtain ⟨Z, ds, hd, hP, _⟩ := h
    rw [hd.lens.1]; exact hlen _ hP
  · obtain ⟨t, h1, h2⟩ := hbody f cdv A outer s H E hr
    have hpl : ps.length ≤ N.length := by have := congrArg List.length S.pre; rw [List.length_take] at this; omega
    exact ⟨t, h1, enterS (E := E) h (fun ds hP => by rw [hlen _ hP]; exact hpl) fun c ds hP hQ => h2 Q c ds hP hQ⟩
end
end DL

end
section
set_option maxRecDepth 100000
set_option maxHeartbeats 2000000
/-! plain facts about needs -/
namespace DL
open PySem L2
/-! how long lists are at most -/
structure Ln {α : Type} (n : Nat) (xs : List α) : Prop where
  h : xs.length ≤ n
/-- no list: what is not known yet is told by it -/
def noList (α : Type) : List α := []
theorem Ln.guard {α : Type} {n : Nat} (h : Ln n (noList α)) : Ln n (noList α) := h
theorem Ln.cons {α : Type} {n : Nat} {x : α} {xs : List α} (h : Ln n xs) : Ln (n + 1) (x :: xs) := ⟨by have := h.h; rw [List.length_cons]; omega⟩
theorem Ln.nil {α : Type} : Ln 0 ([] : List α) := ⟨Nat.le_refl _⟩
theorem Ln.app {α : Type} {m n : Nat} {xs ys : List α} (h : Ln m xs) (g : Ln n ys) : Ln (m + n) (xs ++ ys) := ⟨by have := h.h; have := g.h; rw [List.length_append]; omega⟩
theorem Ln.cut {α : Type} {n : Nat} {xs : List α} {lo hi : Option Int} (h : Ln n xs) : Ln n (cutL xs lo hi) := ⟨by
  have := h.h
  unfold cutL
  rw [List.length_take, List.length_drop]
  omega⟩
theorem Ln.rev {α : Type} {n : Nat} {xs : List α} (h : Ln n xs) : Ln n xs.reverse := ⟨by rw [List.length_reverse]; exact h.h⟩
theorem Ln.map {α β : Type} {n : Nat} {f : α → β} {xs : List α} (h : Ln n xs) : Ln n (xs.map f) := ⟨by rw [List.length_map]; exact h.h⟩
theorem Ln.filter {α : Type} {n : Nat} {f : α → Bool} {xs : List α} (h : Ln n xs) : Ln n (xs.filter f) := ⟨Nat.le_trans (List.length_filter_le _ _) h.h⟩
theorem Ln.range {n : Nat} : Ln n (List.range n) := ⟨by simp⟩
theorem Ln.le {α : Type} {m n : Nat} {xs : List α} (h : Ln m xs) (l : m ≤ n) : xs.length ≤ n := Nat.le_trans h.h l
theorem Ln.lt {α : Type} {m n : Nat} {xs : List α} (h : Ln m xs) (l : m < n) : xs.length < n := Nat.lt_of_le_of_lt h.h l
theorem Ln.add {α β : Type} {m n k : Nat} {xs : List α} {ys : List β} (h : Ln m xs) (g : Ln n ys) (l : m + n ≤ k) : xs.length + ys.length ≤ k := by have := h.h; have := g.h; omega
section
variable {K : PySem.W.Frag} {c : Cq K} {b : Bool} {ρ : Rho} {te : TE} {ds : List PyData} {d e f : PyData} {i j k : Nat}
theorem el_revL (h : EvE c b te ρ ds) : EvL c b (tRevL K te) ρ ds.reverse := el_rev h
theorem tg_unl2 : TgOk c b (gUnl K 2 (gCons (gName i) (gCons (gName j) gNil))) [i, j] ρ (.list [d, e]) ((ρ.set i (.val b d)).set j (.val b e)) := tg_unl (tgs_cons tg_name (tgs_cons tg_name tgs_nil)) rfl
theorem tg_unl3 : TgOk c b (gUnl K 3 (gCons (gName i) (gCons (gName j) (gCons (gName k) gNil)))) [i, j, k] ρ (.list [d, e, f]) (((ρ.set i (.val b d)).set j (.val b e)).set k (.val b f)) := tg_unl (tgs_cons tg_name (tgs_cons tg_name (tgs_cons tg_name tgs_nil))) rfl
theorem tg_tup2 : TgOk c b (gTup K 2 (gCons (gName i) (gCons (gName j) gNil))) [i, j] ρ (.tuple [d, e]) ((ρ.set i (.val b d)).set j (.val b e)) := tg_tup (tgs_cons tg_name (tgs_cons tg_name tgs_nil)) rfl
theorem tg_tup3 : TgOk c b (gTup K 3 (gCons (gName i) (gCons (gName j) (gCons (gName k) gNil)))) [i, j, k] ρ (.tuple [d, e, f]) (((ρ.set i (.val b d)).set j (.val b e)).set k (.val b f)) := tg_tup (tgs_cons tg_name (tgs_cons tg_name (tgs_cons tg_name tgs_nil))) rfl
variable {ta tb : TE} {x y : Bool}
theorem ev_isB (ha : EvR c ta ρ (.bool x)) (hb : EvR c tb ρ (.bool y)) : Ev c b (tOp rIsB ta tb) ρ (.bool (decide (x = y))) := fun O σ F H S Q k =>
  ha O σ F H S _ fun v F1 H1 e1 h1 S1 d1 => hb O σ F1 H1 S1 _ fun w F2 H2 e2 h2 S2 d2 => by
    cases d1; cases d2
    exact ⟨x, y, rfl, rfl, k _ F2 H2 (e1.trans e2) (h1.trans h2) S2 (.bl _)⟩
end
/-- no data: what is not known yet is told by it -/
def noData : PyData := .none
theorem Ev.guard {K : PySem.W.Frag} {c : Cq K} {b : Bool} {ρ : Rho} {te : TE} (h : Ev c b te ρ noData) : Ev c b te ρ noData := h
/-- an int out of a list that is only read -/
theorem ev_ixI {K : PySem.W.Frag} {c : Cq K} {b : Bool} {ρ : Rho} {ta tb : TE} {ds : List PyData} {i z : Int} (ha : EvR c ta ρ (.list ds)) (hb : EvR c tb ρ (.int i)) (h : atI ds i = some (.int z)) : Ev c b (tOp (rIxL K) ta tb) ρ (.int z) := (ev_ixR ha hb h).sca rfl
theorem EvB.weak {K : PySem.W.Frag} {c : Cq K} {ρ ρ' : Rho} {tt : TT} {x : Bool} (l : Le ρ' ρ) (h : EvB c tt ρ' x) : EvB c tt ρ x := fun O σ F H S Q k =>
  h (fun a => O a ∨ ownA ρ σ a) σ F H ((S.sub fun a h => h.elim (S.prot a) fun h => S.ownA_prot h).le l) Q fun F' H' e1 e2 S' =>
    k F' H' e1 e2 (S.again0 e1 e2 S'.ff (fun a h => (S'.prot a (.inl h)).1) fun a h => (S'.prot a (.inr h)).1)
theorem Sz.zero {n : Nat} : Sz n 0 := ⟨by simp; exact Nat.pow_pos (by decide)⟩
theorem natAbs_sum_le {n : Nat} : ∀ {xs : List Int}, (∀ x ∈ xs, Sz n x) → xs.sum.natAbs ≤ xs.length * 2 ^ n
  | [], _ => by simp
  | x :: xs, h => by
    have a := (h x (by simp)).h
    have b := natAbs_sum_le (xs := xs) fun y hy => h y (by simp [hy])
    have c := Int.natAbs_add_le x xs.sum
    rw [List.sum_cons, List.length_cons, Nat.succ_mul]
    omega
theorem Sz.sum {n k : Nat} {xs : List Int} (h : ∀ x ∈ xs, Sz n x) (l : xs.length < 2 ^ k) : Sz (k + n) xs.sum := ⟨by
  have a := natAbs_sum_le h
  rw [Nat.pow_add]
  exact Nat.lt_of_le_of_lt a (Nat.mul_lt_mul_of_pos_right l (Nat.pow_pos (by decide)))⟩
theorem Sz.max {m n : Nat} {x y : Int} (h : Sz m x) (g : Sz n y) : Sz (Max.max m n) (Max.max x y) := by
  have a := h.mono (Nat.le_max_left m n)
  have b := g.mono (Nat.le_max_right m n)
  rcases Int.le_total x y with q | q
  · rw [Int.max_eq_right q]; exact b
  · rw [Int.max_eq_left q]; exact a
theorem sorted_uniq : ∀ {xs ys : List Int}, xs.Perm ys → xs.Pairwise (· ≤ ·) → ys.Pairwise (· ≤ ·) → xs = ys
  | [], ys, p, _, _ => by rw [List.nil_perm.mp p]
  | x :: xs, [], p, _, _ => absurd p.length_eq (by simp)
  | x :: xs, y :: ys, p, h, g => by
    obtain ⟨h1, h2⟩ := List.pairwise_cons.mp h
    obtain ⟨g1, g2⟩ := List.pairwise_cons.mp g
    have mx : x ∈ y :: ys := p.mem_iff.mp (by simp)
    have my : y ∈ x :: xs := p.mem_iff.mpr (by simp)
    have e : x = y := by
      rcases List.mem_cons.mp mx with q | q
      · exact q
      · rcases List.mem_cons.mp my with r | r
        · exact r.symm
        · have a := g1 x q
          have b := h1 y r
          omega
    subst e
    rw [sorted_uniq (List.Perm.cons_inv p) h2 g2]
/-- sorted(xs), ints -/
theorem el_sorted {K : PySem.W.Frag} {c : Cq K} {b : Bool} {ρ : Rho} {te : TE} {ns ms : List Int} (h : EvR c te ρ (.list (ns.map PyData.int))) (hp : ms.Perm ns) (hs : ms.Pairwise (· ≤ ·)) (hl : ns.length < 64) : EvL c b (tCB (rSorted K) (tCons te tNil)) ρ (ms.map PyData.int) := fun O σ F H S Q k =>
  h O σ F H S _ fun v F1 H1 e1 h1 S1 d1 => by
    cases d1 with
    | lst r q =>
      have e := q.ints
      subst e
      refine ⟨_, ns, rfl, dd_sq (fun _ _ h => h) (Evl.Ex.refl _) r, hl, fun ns' p hp' hs' hn => ?_⟩
      rw [sorted_uniq (hp'.trans hp.symm) hs' hs]
      exact lay_list k e1 h1 S1 (DdAll.ofInts ms) p hn
theorem sorted_ex (ns : List Int) : ∃ ms : List Int, ms.Perm ns ∧ ms.Pairwise (· ≤ ·) := by
  refine ⟨ns.mergeSort (fun a b => decide (a ≤ b)), List.mergeSort_perm _ _, ?_⟩
  have := List.pairwise_mergeSort (le := fun a b : Int => decide (a ≤ b)) (fun a b c h1 h2 => by simp at *; omega) (fun a b => by simp; omega) ns
  exact this.imp fun h => by simpa using h
theorem any_pD (prs : List (Int × Int)) (x y : Int) : ((prs.map pD).any fun z => PyData.eqv z (.list [.int x, .int y])) = decide ((x, y) ∈ prs) := by
  have h := any_eqv (f := pD) (k := 1) (fun a => nice_pD a) pD_inj prs (x, y)
  exact h.trans (by simp)
end DL
namespace MQ
open PySem L2 DL
/-- the works 0 .. m - 1 in some order -/
def Ranks (m : Nat) (rs : List Int) : Prop := rs.Perm ((List.range m).map fun i : Nat => (i : Int))
/-- needs of works by works of a greater rank -/
def Picks (m : Nat) (rs : List Int) (prs : List (Int × Int)) : Prop := ∀ p ∈ prs, ∃ i j : Nat, i < j ∧ j < m ∧ rs[i]? = some p.1 ∧ rs[j]? = some p.2
/-- needs of works that can be kept in some order -/
def Dag (m : Nat) (prs : List (Int × Int)) : Prop := ∃ rk : Int → Nat, ∀ p ∈ prs, 0 ≤ p.1 ∧ p.1 < (m : Int) ∧ 0 ≤ p.2 ∧ p.2 < (m : Int) ∧ rk p.1 < rk p.2
theorem Ranks.none : Ranks 0 [] := by unfold Ranks; simp
theorem Ranks.length {m : Nat} {rs : List Int} (h : Ranks m rs) : rs.length = m := by have := List.Perm.length_eq h; simpa using this
theorem Ranks.mem {m : Nat} {rs : List Int} (h : Ranks m rs) {x : Int} : x ∈ rs ↔ 0 ≤ x ∧ x < (m : Int) := by
  rw [List.Perm.mem_iff h, List.mem_map]
  constructor
  · rintro ⟨i, hi, rfl⟩
    have := List.mem_range.mp hi
    omega
  · rintro ⟨a, b⟩
    exact ⟨x.toNat, List.mem_range.mpr (by omega), by omega⟩
theorem Ranks.nodup {m : Nat} {rs : List Int} (h : Ranks m rs) : rs.Nodup := by
  refine (List.Perm.nodup_iff h).mpr ?_
  rw [List.nodup_iff_pairwise_ne, List.pairwise_map]
  exact (List.nodup_iff_pairwise_ne.mp List.nodup_range).imp fun h => by omega
theorem Ranks.insert {m : Nat} {rs : List Int} (h : Ranks m rs) (k : Nat) : Ranks (m + 1) (rs.take k ++ [(m : Int)] ++ rs.drop k) := by
  unfold Ranks at *
  rw [List.range_succ, List.map_append, List.map_singleton]
  have e : rs.take k ++ [(m : Int)] ++ rs.drop k = rs.take k ++ ((m : Int) :: rs.drop k) := by simp
  rw [e]
  refine List.perm_middle.trans ?_
  rw [List.take_append_drop]
  exact (List.Perm.cons _ h).trans (List.perm_append_singleton _ _).symm
theorem Ranks.get {m : Nat} {rs : List Int} (h : Ranks m rs) {i : Nat} (hi : i < m) : ∃ x, rs[i]? = some x ∧ 0 ≤ x ∧ x < (m : Int) := by
  have hl := h.length
  refine ⟨rs[i]'(by omega), by simp [hl, hi], ?_⟩
  exact h.mem.mp (List.getElem_mem _)
theorem idxOf_get {rs : List Int} (hn : rs.Nodup) {i : Nat} {x : Int} (h : rs[i]? = some x) : rs.idxOf x = i := by
  obtain ⟨hi, rfl⟩ := List.getElem?_eq_some_iff.mp h
  exact List.Nodup.idxOf_getElem hn i hi
theorem Picks.dag {m : Nat} {rs : List Int} {prs : List (Int × Int)} (hr : Ranks m rs) (h : Picks m rs prs) : Dag m prs := by
  refine ⟨fun x => rs.idxOf x, fun p hp => ?_⟩
  obtain ⟨i, j, hij, hj, h1, h2⟩ := h p hp
  have m1 := hr.mem.mp (List.mem_of_getElem? h1)
  have m2 := hr.mem.mp (List.mem_of_getElem? h2)
  refine ⟨m1.1, m1.2, m2.1, m2.2, ?_⟩
  show rs.idxOf p.1 < rs.idxOf p.2
  rw [idxOf_get hr.nodup h1, idxOf_get hr.nodup h2]
  exact hij
theorem Picks.app {m : Nat} {rs : List Int} {prs : List (Int × Int)} (h : Picks m rs prs) {i j : Nat} {x y : Int} (hij : i < j) (hj : j < m) (h1 : rs[i]? = some x) (h2 : rs[j]? = some y) : Picks m rs (prs ++ [(x, y)]) := fun p hp => by
  rcases List.mem_append.mp hp with q | q
  · exact h p q
  · rw [List.mem_singleton] at q
    subst q
    exact ⟨i, j, hij, hj, h1, h2⟩
theorem Picks.nil {m : Nat} {rs : List Int} : Picks m rs [] := fun p hp => by cases hp
theorem cutL_sub {α : Type} {xs : List α} {lo hi : Option Int} {x : α} (h : x ∈ cutL xs lo hi) : x ∈ xs := by
  unfold cutL at h
  exact List.mem_of_mem_drop (List.mem_of_mem_take h)
theorem cutL_len {α : Type} {xs : List α} {lo hi : Option Int} : (cutL xs lo hi).length ≤ xs.length := by
  unfold cutL
  rw [List.length_take, List.length_drop]
  omega
/-! lists of ints, at most so long -/
structure IntsN (n : Nat) (ds : List PyData) : Prop where
  al : ∀ d ∈ ds, ∃ z : Int, d = .int z
  le : ds.length ≤ n
theorem IntsN.ex {n : Nat} : ∀ {ds : List PyData}, IntsN n ds → ∃ ws : List Int, ds = ws.map PyData.int ∧ ws.length ≤ n
  | [], h => ⟨[], rfl, by simp⟩
  | d :: ds, h => by
    obtain ⟨z, rfl⟩ := h.al d (by simp)
    have l := h.le
    rw [List.length_cons] at l
    obtain ⟨ws, rfl, hl⟩ := IntsN.ex (n := n - 1) (ds := ds) ⟨fun d hd => h.al d (by simp [hd]), by omega⟩
    exact ⟨z :: ws, rfl, by rw [List.length_cons]; omega⟩
theorem IntsN.of {ws : List Int} {n : Nat} (h : ws.length ≤ n) : IntsN n (ws.map PyData.int) := ⟨fun d hd => by
  obtain ⟨z, _, rfl⟩ := List.mem_map.mp hd
  exact ⟨z, rfl⟩, by rw [List.length_map]; exact h⟩
theorem IntsN.app {m n : Nat} {xs ys : List PyData} (h : IntsN m xs) (g : IntsN n ys) : IntsN (m + n) (xs ++ ys) := ⟨fun d hd => by
  rcases List.mem_append.mp hd with q | q
  · exact h.al d q
  · exact g.al d q, by have := h.le; have := g.le; rw [List.length_append]; omega⟩
theorem IntsN.cut {n : Nat} {xs : List PyData} (h : IntsN n xs) (lo hi : Option Int) : IntsN n (cutL xs lo hi) := ⟨fun d hd => h.al d (cutL_sub hd), Nat.le_trans cutL_len h.le⟩
theorem IntsN.rev {n : Nat} {xs : List PyData} (h : IntsN n xs) : IntsN n xs.reverse := ⟨fun d hd => h.al d (List.mem_reverse.mp hd), by rw [List.length_reverse]; exact h.le⟩
theorem IntsN.nil : IntsN 0 [] := ⟨fun d hd => (List.not_mem_nil hd).elim, Nat.le_refl _⟩
theorem IntsN.cons {n : Nat} {z : Int} {xs : List PyData} (h : IntsN n xs) : IntsN (n + 1) (.int z :: xs) := ⟨fun d hd => by
  rcases List.mem_cons.mp hd with q | q
  · exact ⟨z, q⟩
  · exact h.al d q, by have := h.le; rw [List.length_cons]; omega⟩
theorem IntsN.mono {m n : Nat} {xs : List PyData} (h : IntsN m xs) (l : m ≤ n) : IntsN n xs := ⟨h.al, Nat.le_trans h.le l⟩
theorem dec (p : Prop) : ∃ b : Bool, b = true ↔ p := by
  by_cases h : p
  · exact ⟨true, by simp [h]⟩
  · exact ⟨false, by simp [h]⟩
theorem dec_eq {b d : Bool} {p : Prop} (h : b = true ↔ p) (g : d = true ↔ p) : b = d := by
  rw [Bool.eq_iff_iff, h, g]
theorem dec_false {b : Bool} {p : Prop} (h : b = true ↔ p) (g : ¬ p) : b = false := by
  cases b with
  | false => rfl
  | true => exact absurd (h.mp rfl) g
theorem dec_true {b : Bool} {p : Prop} (h : b = true ↔ p) (g : p) : b = true := h.mpr g
/-- works each of which needs the one ahead -/
def IsWay (m : Int) (prs : List (Int × Int)) (ws : List Int) : Prop := (∀ (k : Nat) (a : Int), ws[k]? = some a → 0 ≤ a ∧ a < m) ∧ (∀ (k : Nat) (a b : Int), ws[k]? = some a → ws[k + 1]? = some b → (a, b) ∈ prs) ∧ 0 < ws.length
end MQ

end
section
set_option maxRecDepth 100000
set_option maxHeartbeats 2000000
/-! errors that are caught and kept: except X as e: y = e, with y looked at behind it -/
namespace DL
open PySem PySem.Spec PyProof.Rows L2
theorem caught_ok {P : Program} {w : World} {H : Hp} {h : Heap} {a : Addr} {cls : Value} {oe : Obj} {vs : Array Value} (e : h.get? a = some oe) (c : oe.cls = cls) (d : oe.dict = none) (v : oe.data = .fields vs) : ObjOk P w H h a (.ext (Caught cls a)) :=
  ⟨⟨oe, e, c, d, vs, v⟩, ⟨oe, e⟩, fun _ _ ⟨o, e1, c1, d1, v1⟩ k => ⟨o, k o e1, c1, d1, v1⟩⟩
/-- an object that is new since the entry is told from now on -/
theorem track {X : Cx} {pins : List (Addr × Obj)} {σ : St} {H : Hp} {s : Shared} {a : Addr} {cls : Value} {oe : Obj} {vs : Array Value} (I : Inv X pins σ H s) (n0 : X.s_0.heap.get? a = none) (na : H a = none) (nL : a ≠ X.env.locals)
    (np : ∀ p ∈ X.pn ++ pins, p.1 ≠ a) (e : s.heap.get? a = some oe) (c : oe.cls = cls) (d : oe.dict = none) (v : oe.data = .fields vs) : Inv X pins σ (upd H a (.ext (Caught cls a))) s :=
  ⟨I.ok, I.os, I.bare, ⟨I.base.keep, I.base.slot, fun b o q n hx => by
      rw [upd_ne (fun z => by rw [z, n0] at q; cases q)]
      exact I.base.free b o q n hx, I.base.there, fun b xs q => by
      have r := I.base.tups b xs q
      rw [upd_ne (fun z => by rw [z, na] at r; cases r)]
      exact r, fun b o u q => by
      have r := I.base.frzs b o u q
      rw [upd_ne (fun z => by rw [z, na] at r; cases r)]
      exact r, fun b ps q => by
      obtain ⟨more, r⟩ := I.base.tbls b ps q
      rw [upd_ne (fun z => by rw [z, na] at r; cases r)]
      exact ⟨more, r⟩⟩, I.loc, I.cell, by rw [upd_ne (fun z => nL z.symm)]; exact I.free, fun x k q => by
      rw [upd_ne (fun z => by
        obtain ⟨w, o, ho, hd⟩ := I.cell x k q
        rw [z, e] at ho
        cases ho
        rw [v] at hd
        cases hd)]
      exact I.freeC x k q, fun p hp => by
      obtain ⟨p1, p2, p3⟩ := I.pin p hp
      exact ⟨p1, by rw [upd_ne (np p hp)]; exact p2, p3⟩, I.hok.laidN (fun _ _ z => z) na (caught_ok e c d v), I.len⟩
/-- what the clause 'except x as n' wishes, which takes the exception; the object is told behind it -/
def wKeep (K : PySem.W.Frag) (c : Value) (i : Nat) (ts : Addr → TS) (D : Ends) : WX := fun cls d σ H =>
  PySem.W.exmOne K cls c = some true ∧ d = none ∧ ∀ a, H a = none → ts a { nx := fun σ' H' => D.nx (σ'.set i none) (upd H' a (.ext (Caught cls a))), rt := fun _ _ => False, bk := fun _ _ => False, ct := fun _ _ => False } (σ.set i (some (.ref a))) H
section
variable {X : Cx} {x n : Str} {c : Value} {i : Nat} {body suite : List Stmt} {b₀ : Stmt} {np pos pos' : Pos} {tb : WX → TS} {ts : Addr → TS}
theorem ps_keep (hs : X.stack = X.env :: X.outer) (hf : X.env.frame = some X.env.locals) (hx : X.ex = []) (hN : X.N.Nodup) (hi : X.N[i]? = some n) (hln : X.env.kindOf n = some .local) (hc : Names X x c)
    (hb : ∀ (W : WX) (pn : List (Addr × Obj)) (xe : Value → Shared → Prop), Takes (X.tr pn xe) W → PassesOwn (model X.prog X.w) X.A X.env xe → PSs (X.tr pn xe) body (tb W))
    (hsu : ∀ (a : Addr) (oe : Obj) (cls : Value) (d : Option Addr) (pn : List (Addr × Obj)), Zc cls d oe → (∃ vs, oe.data = .fields vs) → PSs (X.suite a ((a, oe) :: pn)) (b₀ :: suite) (ts a)) :
    PS X (.Try body [.ExceptHandler (some (.Name x np)) (some n) (b₀ :: suite) pos'] [] [] pos) (fun D σ H => tb (wKeep X.K c i ts D) D σ H) := by
  refine ⟨fun pins s σ H D I h => ?_⟩
  have ok := I.ok
  have frm : X.A.frames = some (X.env :: X.outer) := by rw [ok.frames, hs]
  refine wpAny_Try_except (wpAny_mono ((hb (wKeep X.K c i ts D) (X.pn ++ pins) (fun e s₁ => wpAny (model X.prog X.w) X.A (noteFrame e X.env) (fun _ s₂ => wpAny (model X.prog X.w) X.A (setFlight e none) (fun _ s₃ =>
    wpAny (model X.prog X.w) X.A (handleBy e X.env [.ExceptHandler (some (.Name x np)) (some n) (b₀ :: suite) pos']) (SP X pins D) X.xe s₃) X.xe s₂) X.xe s₁) (fun u s' xx => ?_) PassesOwn.looking).run [] s σ H D (I.toTry _) h) (fun f s1 hsp => ?_) (fun e s1 he => he))
  · obtain ⟨a, B, sI, pins', σ', H', cls, d, rfl, J', nb, up, sky, na, os, ag, hm, hd0, hyes⟩ := xx
    have J : Inv X pins σ' H' sI := J'.ofTry ok
    have sky' : Sky B (X.env :: X.outer) a (Zc cls d) X.env.locals s'.heap := by rw [← hs]; exact sky
    show wpAny (model X.prog X.w) X.A (noteFrame (.ref a) X.env) _ _ _
    refine Sky.land Zc.steady frm hf sky' fun h3 fl3 up3 => ?_
    have J3 : Inv X pins σ' H' { s' with heap := h3 } := J.landed nb fl3.1 (up.trans up3) os ag
    obtain ⟨oe3, vs3, he3, hz3, hd3⟩ := fl3.there
    have nfr : a ∉ frs (X.env :: X.outer) := fun hm => by
      obtain ⟨_, o', e', hnf⟩ := fl3.2.2.1.mem hm
      rw [he3] at e'
      cases e'
      exact hnf _ hd3
    have nL : a ≠ X.env.locals := fun z => nfr (List.mem_filterMap.mpr ⟨X.env, List.mem_cons_self, by rw [hf, z]⟩)
    have nF : a ∉ X.fs := fun hm => by
      obtain ⟨e, he, q⟩ := List.mem_filterMap.mp hm
      exact nfr (List.mem_filterMap.mpr ⟨e, List.mem_cons_of_mem _ he, q⟩)
    have aB : B.get? a = none := fl3.2.1
    have aI : sI.heap.get? a = none := by
      cases q : sI.heap.get? a with
      | none => rfl
      | some o => rw [nb a o q (by rw [hs]; exact nfr)] at aB; cases aB
    have n0 : X.s_0.heap.get? a = none := by
      cases q : X.s_0.heap.get? a with
      | none => rfl
      | some o =>
        obtain ⟨o', e'⟩ := J.base.there a o q (by rw [hx]; exact List.not_mem_nil)
        rw [aI] at e'
        cases e'
    have npa : ∀ p ∈ X.pn ++ pins, p.1 ≠ a := fun p hp z => by
      have q := (J.pin p hp).1
      rw [z, aI] at q
      cases q
    have S3 := J3.suite he3 hd3 na nL nF
    refine wpAny_handleBy_cons (codeAny_handlers_test ?_) (by intro q; cases q)
    have LT : PySem.W.Looks (model X.prog X.w) h3 (typeOf (.ref a)) cls := fun A Q E s k q => wpAny_typeOf_ref (k _ _ he3) (by rw [hz3.1]; exact q)
    have LM := PySem.W.exm_one (M := model X.prog X.w) (J3.kIn) LT hm
    have named : ∀ {Q : Value → Shared → Prop} {E : Value → Shared → Prop}, Q c { s' with heap := h3 } → wpAny (model X.prog X.w) (X.A.mark (some (.ref a))) (eval (.Name x np) X.env) Q E { s' with heap := h3 } := fun {Q E} q => by
      obtain ⟨hg, hdbg, hm | ⟨hm, hv, hnn⟩⟩ := hc
      · exact ld_glob (X := X.suite a ((a, oe3) :: (X.pn ++ pins))) S3 hg hm q hdbg
      · exact ld_blt (X := X.suite a ((a, oe3) :: (X.pn ++ pins))) S3 hg hm hv q hnn hdbg
    refine named (LM.here ?_)
    refine codeAny_handlers_suite_as ?_
    refine HandSPX.lands_againZ fl3 fun h4 fl4 up4 => ?_
    have J4 : Inv X pins σ' H' { s' with heap := h4 } := J.landed nb fl4.1 ((up.trans up3).trans up4) os ag
    obtain ⟨oe4, vs4, he4, hz4, hd4⟩ := fl4.there
    have S4 := J4.suite he4 hd4 na nL nF
    refine store_ok (X := X.suite a ((a, oe4) :: (X.pn ++ pins))) (v := .ref a) S4 hN hi (.inl hln) rfl (fun s5 S5 => ?_) (.inr hln)
    refine wpAny_mono ((hsu a oe4 cls d (X.pn ++ pins) hz4 ⟨_, hd4⟩).run [] s5 _ H' _ S5 (hyes a na)) (fun f s6 hsp => ?_) (fun _ _ z => False.elim z)
    cases f with
    | next =>
      obtain ⟨σ6, H6, S6, q6⟩ := hsp
      obtain ⟨g1, g2, _⟩ := S6.pin (a, oe4) (List.mem_append.mpr (.inl List.mem_cons_self))
      have T6 := track (cls := cls) (S6.unsuite ok) n0 g2 nL npa g1 hz4.1 (hz4.2.trans hd0) hd4
      exact gone_ok T6 hN hi hln fun s7 J7 => ⟨_, _, J7, q6⟩
    | brk =>
      obtain ⟨σ6, H6, S6, q6⟩ := hsp
      exact q6.elim
    | cont =>
      obtain ⟨σ6, H6, S6, q6⟩ := hsp
      exact q6.elim
    | ret u =>
      obtain ⟨v6, σ6, H6, S6, r6, q6⟩ := hsp
      exact q6.elim
  · cases f with
    | next =>
      obtain ⟨σ', H', J', q⟩ := hsp
      exact wpAny_execs_nil ⟨σ', H', J'.ofTry ok, q⟩
    | brk =>
      obtain ⟨σ', H', J', q⟩ := hsp
      exact ⟨σ', H', J'.ofTry ok, q⟩
    | cont =>
      obtain ⟨σ', H', J', q⟩ := hsp
      exact ⟨σ', H', J'.ofTry ok, q⟩
    | ret u =>
      obtain ⟨v, σ', H', J', r, q⟩ := hsp
      exact ⟨v, σ', H', J'.ofTry ok, r, q⟩
end
/-! isinstance of such an error -/
def rIsC (K : PySem.W.Frag) : List V → Hp → VK → Prop := fun xs H Q => ∃ (a D : Addr) (c : V) (u : Value) (b : Bool), xs = [.ref a, c] ∧ H a = some (.ext (Caught (.ref D) a)) ∧ ExcC K D ∧ ClsV c u ∧ PySem.W.kitOne K (.ref D) u = some b ∧ Q (.bl b) H
def rIsCT (K : PySem.W.Frag) : List V → Hp → VK → Prop := fun xs H Q => ∃ (a D tp : Addr) (cs : List V) (us : List Value) (b : Bool), xs = [.ref a, .ref tp] ∧ H tp = some (.tup cs) ∧ H a = some (.ext (Caught (.ref D) a)) ∧ ExcC K D ∧ Paired ClsV cs us ∧ PySem.W.kitAny K (.ref D) us = some b ∧ Q (.bl b) H
theorem caught_at {P : Program} {w : World} {H : Hp} {h : Heap} {a D : Addr} (x : ObjOk P w H h a (.ext (Caught (.ref D) a))) : ∃ ox, PySem.W.InstAt h a ox D none := by
  obtain ⟨⟨oe, e, c, d, vs, v⟩, _⟩ := x
  obtain ⟨oc, od, oda, osl⟩ := oe
  dsimp only at c d v
  subst c d v
  exact ⟨_, e, rfl, rfl, trivial⟩
section
variable {X : Cx}
theorem call_isC : CallR X (.builtin "isinstance") (rIsC X.K) := by
  intro pins s σ H xs us Q I r h
  obtain ⟨a, D, c, u, b, rfl, ha, C, k, e, q⟩ := h
  obtain ⟨u1, u2, rfl, r1, r2⟩ := vals2 r
  cases (show u1 = Value.ref a from r1)
  have e2 := k.eq r2
  subst e2
  obtain ⟨ox, J⟩ := caught_at (I.hok a _ ha)
  exact PySem.W.kia_one (PySem.W.handS_kitx_exc C.hg C.hk C.hs C.hd C.ha C.hn C.ht C.hm) I.kIn J e (fun z => nomatch z) fun tk => ⟨.bl b, H, I.tok tk, rfl, q⟩
theorem call_isCT : CallR X (.builtin "isinstance") (rIsCT X.K) := by
  intro pins s σ H xs us Q I r h
  obtain ⟨a, D, tp, cs, ws, b, rfl, hT, ha, C, k, e, q⟩ := h
  obtain ⟨u1, u2, rfl, r1, r2⟩ := vals2 r
  cases (show u1 = Value.ref a from r1)
  cases (show u2 = Value.ref tp from r2)
  obtain ⟨ox, J⟩ := caught_at (I.hok a _ ha)
  obtain ⟨_, its, rv, o, h1, h2, n, h3⟩ := (show ObjOk X.prog X.w H s.heap tp (.tup cs) from I.hok tp _ hT)
  have e3 := ClsV.all k rv
  subst e3
  obtain ⟨oc, od, dt, sl⟩ := o
  simp only at h2 h3
  subst h2 h3
  exact PySem.W.kia_tup (PySem.W.handS_kitx_exc C.hg C.hk C.hs C.hd C.ha C.hn C.ht C.hm) I.kIn J h1 e (fun z => nomatch z) fun tk => ⟨.bl b, H, I.tok tk, rfl, q⟩
theorem k_isC (K : PySem.W.Frag) (h : X.K = K := by rfl) : CallR X (.builtin "isinstance") (rIsC K) := h ▸ call_isC
theorem k_isCT (K : PySem.W.Frag) (h : X.K = K := by rfl) : CallR X (.builtin "isinstance") (rIsCT K) := h ▸ call_isCT
end
/-- what is asked of an own class of errors over ValueError -/
structure EC (K : PySem.W.Frag) (mg : Str → Option Value) (x : Str) (C : Addr) : Prop where
  g : mg x = some (.ref C)
  x : PySem.W.excIn K C [.type "ValueError", .type "Exception", .type "BaseException", .type "object"] "ValueError.__new__" = true
  k : PySem.W.keepIn K (.ref C) = true
  b : PySem.W.subIn K (.ref C) (.type "BaseException") = some true
  t : PySem.W.typeIn K (.ref C) = some (.type "type")
  c : ExcC K C
/-! raise X('..') -/
def tRaise (E : XK) (C : Addr) : TS := fun _ _ H => E (.ref C) none H
theorem ps_raiseK {X : Cx} {x m : Str} {C : Addr} {j : Nat} {p p2 pos pos' : Pos} {E : XK} (e : EC X.K X.mg x C) (hc : X.calm = true) (tk : Takes X (fun cls d _ H => E cls d H)) (hg : Gl X x) (hdb : (x == ("__debug__" : Str)) = false := by decide) :
    PS X (.Raise (some (.Call (.Name x p) [.Constant (.str m) j p2] [] pos)) none pos') (tRaise E C) :=
  ps_raise hc tk (pmk_own PySem.F.excBase_ValueError e.x e.g e.k (raises_own e.b e.t) hg hdb)
/-! try: .. except X as n: y = n -/
def tTryK (K : PySem.W.Frag) (cc : Value) (i j : Nat) (tb : WX → TS) : TS := fun D σ H => tb (wKeep K cc i (fun _ => tAsg (tVar i) (gName j)) D) D σ H
section
variable {X : Cx}
theorem ps_tryK {x n : Str} {cc : Value} {i j : Nat} {body suite : List Stmt} {b₀ : Stmt} {np pos pos' : Pos} {tb : WX → TS} (K : PySem.W.Frag) (hK : X.K = K) (hs : X.stack = X.env :: X.outer) (hf : X.env.frame = some X.env.locals) (hx : X.ex = []) (hN : X.N.Nodup) (hi : X.N[i]? = some n) (hln : X.env.kindOf n = some .local) (hc : Names X x cc)
    (hb : ∀ (W : WX) (pn : List (Addr × Obj)) (xe : Value → Shared → Prop), Takes (X.tr pn xe) W → PassesOwn (model X.prog X.w) X.A X.env xe → PSs (X.tr pn xe) body (tb W))
    (hsu : ∀ (a : Addr) (oe : Obj) (cls : Value) (d : Option Addr) (pn : List (Addr × Obj)), Zc cls d oe → (∃ vs, oe.data = .fields vs) → PSs (X.suite a ((a, oe) :: pn)) (b₀ :: suite) (tAsg (tVar i) (gName j))) :
    PS X (.Try body [.ExceptHandler (some (.Name x np)) (some n) (b₀ :: suite) pos'] [] [] pos) (tTryK K cc i j tb) := by
  subst hK
  exact ps_keep hs hf hx hN hi hln hc hb hsu
theorem pe_clS {CX : CXT} {k : Nat} {x : Str} {sp : Sp} {E : St → XK} {p pos : Pos} {e : Expr} {es : List Expr} {t : TA} (c : Cl X.prog X.w X.K X.mg X.base CX k x sp) (hr : Room k X.A) (hg : Gl X x) (hx : ∀ σ, PassesAt CX X σ (E σ)) (ha : PA X (e :: es) t)
    (hdb : (x == ("__debug__" : Str)) = false := by decide) (he : starEach (e :: es) X.env = (false, eval e X.env) :: starEach es X.env := by rfl) (hpl : (backTo pos (starEach es X.env)).any (·.1) = false := by rfl) :
    PE X (.Call (.Name x p) (e :: es) [] pos) (tCallS sp E t) := by
  obtain ⟨f, fd, ps, F, hm, kp, b⟩ := c.ex
  exact pe_callS F hr hg hm kp b hx ha hdb he hpl
end
section
variable {K : PySem.W.Frag} {c : Cq K} {B : Hp} {b : Bool} {ρ : Rho} {D D' : Ends} {ta : TA} {te : TE} {tb : WX → TS} {tz : TS} {ds : List PyData} {r : PyData} {C : Addr} {cc : Value} {i j : Nat} {R : List PyData → PyData → Prop} {Xr : List PyData → Addr → Prop} {E : St → XK}
theorem go_try (h : Go c B (tb (wKeep K cc i (fun _ => tAsg (tVar i) (gName j)) D)) D ρ) : Go c B (tTryK K cc i j tb) D ρ := h
theorem q_try (h : Go c B (tb (wKeep K cc i (fun _ => tAsg (tVar i) (gName j)) { D with nx := tz D })) { D with nx := tz D } ρ) : Go c B (tSeq (tTryK K cc i j tb) tz) D ρ := h
/-- the call hands something back -/
theorem go_dropXS (h : EvA c ta ρ ds) (hR : R ds r) (k : Nx c B D ρ) : Go c B (tDrop (tCallS (spX K R Xr) E ta)) D ρ := fun O σ F H e S => h O σ F H S _ fun vs F1 H1 e1 h1 S1 d1 =>
  ⟨ds, d1, .inl ⟨r, hR, fun v H' e2 dd => k O σ _ H' (e.trans (e1.trans (addF_ex S1.ff))) (S1.add e2)⟩⟩
/-- the call's error is caught -/
theorem go_dropXK (h : EvA c ta ρ ds) (hX : Xr ds C) (he : PySem.W.exmOne K (.ref C) cc = some true) (hi : i < ρ.length) (k : Nx c B D' ((ρ.set i .no).set j (.exc (.ref C)))) (ij : i ≠ j := by decide) :
    Go c B (tDrop (tCallS (spX K R Xr) (WE (wKeep K cc i (fun _ => tAsg (tVar i) (gName j)) D')) ta)) D ρ := fun O σ F H e S => h O σ F H S _ fun vs F1 H1 e1 h1 S1 d1 => by
  refine ⟨ds, d1, .inr ⟨C, hX, fun H' e2 => ⟨he, rfl, fun a na => ?_⟩⟩⟩
  have li : i < σ.length := by rw [S1.len]; exact hi
  refine ⟨.ref a, by rw [List.getElem?_set_self li], ?_⟩
  have S2 := S1.add e2
  have fa : addF F1 H1 H' a = none := Evl.fresh_back S2.ff na
  have ef : Ex (addF F1 H1 H') (upd (addF F1 H1 H') a (.ext (Caught (.ref C) a))) := Evl.Ex.new fa
  have S3 : Sim c O ρ σ (upd (addF F1 H1 H') a (.ext (Caught (.ref C) a))) (upd H' a (.ext (Caught (.ref C) a))) := S2.grow ef (Evl.Ex.new na) (fun x hx fx => by
    rw [upd_ne (fun z => hx (by rw [z]; exact na))]; exact fx) fun x o q => by
    by_cases z : x = a
    · subst z; rw [upd_same] at q ⊢; exact q
    · rw [upd_ne z] at q ⊢; exact S2.ff x o q
  have S4 := (S3.setS (j := i) (s := .no) (o := none) trivial fun a (h : False) => h.elim).setS (j := j) (s := .exc (.ref C)) (o := some (.ref a)) ⟨a, rfl, upd_same⟩ fun a (h : False) => h.elim
  have es : ((σ.set i (some (V.ref a))).set j (some (V.ref a))).set i none = (σ.set i none).set j (some (V.ref a)) := by
    rw [List.set_comm _ _ ij.symm, List.set_set]
  show D'.nx (((σ.set i (some (V.ref a))).set j (some (V.ref a))).set i none) _
  rw [es]
  exact k O _ _ _ (e.trans ((e1.trans (addF_ex S1.ff)).trans ef)) S4
theorem go_raise {E : XK} (hE : ∀ H', Ex c.H0 H' → E (.ref C) none H') : Go c B (tRaise E C) D ρ := fun O σ F H e S => hE H S.bb
theorem q_raise {E : XK} (hE : ∀ H', Ex c.H0 H' → E (.ref C) none H') : Go c B (tSeq (tRaise E C) tz) D ρ := fun O σ F H e S => hE H S.bb
theorem ev_isC {x : Bool} {v : V} {u : Value} (h : ρ[i]? = some (.exc (.ref C))) (hC : ExcC K C) (k : ClsV v u) (e : PySem.W.kitOne K (.ref C) u = some x) : Ev c b (tCB (rIsC K) (tCons (tVar i) (tCons (tC v) tNil))) ρ (.bool x) := fun O σ F H S Q q => by
  obtain ⟨o, ho, a, rfl, fa⟩ := S.get h
  exact ⟨_, ho, a, C, v, u, x, rfl, S.ff _ _ fa, hC, k, e, q _ F H (Evl.Ex.refl _) (Evl.Ex.refl _) S (.bl _)⟩
theorem ev_isNX (h : ρ[i]? = some (.exc (.ref C))) : Ev c b (tOp (fun x y H Q => y = V.non ∧ Q (.bl (decide (x = .non))) H) (tVar i) (tC .non)) ρ (.bool false) := fun O σ F H S Q q => by
  obtain ⟨o, ho, a, rfl, fa⟩ := S.get h
  exact ⟨_, ho, rfl, q _ F H (Evl.Ex.refl _) (Evl.Ex.refl _) S (.bl _)⟩
/-- a tuple of classes -/
inductive ClsA : TA → List V → List Value → Prop
  | nil : ClsA tNil [] []
  | cons {v : V} {u : Value} {t : TA} {vs : List V} {us : List Value} (k : ClsV v u) (r : ClsA t vs us) : ClsA (tCons (tC v) t) (v :: vs) (u :: us)
theorem ClsA.run : ∀ {t : TA} {vs : List V} {us : List Value}, ClsA t vs us → Paired ClsV vs us ∧ ∀ (σ : St) (H : Hp) (Q : List V → Hp → Prop), Q vs H → t σ H Q
  | _, _, _, .nil => ⟨.nil, fun _ _ _ q => q⟩
  | _, _, _, .cons k r => ⟨.cons k r.run.1, fun σ H Q q => r.run.2 σ H _ q⟩
theorem ev_isCT {x : Bool} {t : TA} {vs : List V} {us : List Value} (h : ρ[i]? = some (.exc (.ref C))) (hC : ExcC K C) (k : ClsA t vs us) (hl : vs.length ≤ 100000) (e : PySem.W.kitAny K (.ref C) us = some x) : Ev c b (tCB (rIsCT K) (tCons (tVar i) (tCons (tTup t) tNil))) ρ (.bool x) := fun O σ F H S Q q => by
  obtain ⟨o, ho, a, rfl, fa⟩ := S.get h
  refine ⟨_, ho, k.run.2 _ _ _ ⟨Evl.sz_of hl, fun p hp => ?_⟩⟩
  have ha := S.ff _ _ fa
  refine ⟨a, C, p, vs, us, x, rfl, upd_same, by rw [upd_ne (fun z => by rw [z, hp] at ha; cases ha)]; exact ha, hC, k.run.1, e, ?_⟩
  exact q _ F _ (Evl.Ex.refl _) (Evl.Ex.new hp) (S.lay hp) (.bl _)
end
/-! defs that hand back data or raise: O ds o, what comes of ds -/
def spO (K : PySem.W.Frag) (O : List PyData → PyData ⊕ Addr → Prop) : Sp := spX K (fun ds r => O ds (.inl r)) fun ds C => O ds (.inr C)
def Out {K : PySem.W.Frag} (c : Cq K) (Q : VK) (E : XK) : PyData ⊕ Addr → Prop
  | .inl r => Rt c Q r
  | .inr C => ∀ H', Ex c.H0 H' → E (.ref C) none H'
section
variable {K : PySem.W.Frag} {c : Cq K} {B : Hp} {b : Bool} {ρ : Rho} {D D' : Ends} {ta : TA} {ds : List PyData} {r : PyData} {C : Addr} {cc : Value} {i j : Nat} {O : List PyData → PyData ⊕ Addr → Prop}
theorem ev_callO {E : XK} (h : EvA c ta ρ ds) (hR : O ds (.inl r)) : Ev c b (tCall (spO K O) [] E ta) ρ r := ev_callX h hR
theorem ez_callO {E : XK} (h : EvA c ta ρ ds) (hX : O ds (.inr C)) (hE : ∀ H', Ex c.H0 H' → E (.ref C) none H') : EvZ c (tCall (spO K O) [] E ta) ρ := ez_callX h hX hE
theorem go_dropOS {E : St → XK} (h : EvA c ta ρ ds) (hR : O ds (.inl r)) (k : Nx c B D ρ) : Go c B (tDrop (tCallS (spO K O) E ta)) D ρ := go_dropXS h hR k
theorem go_dropOK (h : EvA c ta ρ ds) (hX : O ds (.inr C)) (he : PySem.W.exmOne K (.ref C) cc = some true) (hi : i < ρ.length) (k : Nx c B D' ((ρ.set i .no).set j (.exc (.ref C)))) (ij : i ≠ j := by decide) :
    Go c B (tDrop (tCallS (spO K O) (WE (wKeep K cc i (fun _ => tAsg (tVar i) (gName j)) D')) ta)) D ρ := go_dropXK h hX he hi k ij
end
section
variable {P : Program} {w : World} {K : PySem.W.Frag} {mg : Str → Option Value} {base : Heap} {x : Str} {st : Stmt} {N ps : List Str} {k : Nat}
theorem cl_O {O : List PyData → PyData ⊕ Addr → Prop} (D : Dfn K mg x st ps) (S : FnScope N ps (defScope st)) (hlen : ∀ ds o, O ds o → ds.length = ps.length)
    (hbody : ∀ (f : Addr) (cdv : Value) (A : Around) (outer : List Env) (s : Shared) (H : Hp) (E : XK), Room k (A.deeper (envOfC x (defScope st) s.heap.objs.size f cdv)) →
      ∃ t, PSs (cxOf (L2.CX P w) P w K mg base N x (defScope st) f cdv A outer s H E) (defBody st) t ∧
        (∀ (Q : VK) (c : Cq K) ds o, O ds o → Out c Q E o → Go c c.H0 t { nx := fun _ H' => Q .non H', rt := Q } (ds.map (Sl.val false) ++ List.replicate (N.length - ds.length) Sl.no))) :
    Cl P w K mg base (L2.CX P w) (k + 1) x (spO K O) :=
  cl_X D S (fun ds r h => hlen ds _ h) (fun ds C h => hlen ds _ h) fun f cdv A outer s H E hr => by
    obtain ⟨t, h1, h2⟩ := hbody f cdv A outer s H E hr
    exact ⟨t, h1, fun Q c ds r hR hQ => h2 Q c ds (.inl r) hR hQ, fun Q c ds C hX hE => h2 Q c ds (.inr C) hX hE⟩
end
theorem kit_ref {K : PySem.W.Frag} {C : Addr} {cls : Value} {b : Bool} (hs : PySem.W.subIn K cls cls = some true) (hd : PySem.W.hasDictIn K C = true) (ht : PySem.W.typeIn K (.ref C) = some (.type "type")) (h4 : PySem.W.subIn K cls (.ref C) = some b) : PySem.W.kitOne K cls (.ref C) = some b := by
  obtain ⟨cd, hc, _⟩ := PySem.W.any_some hd
  have e2 : ((PySem.W.clsIn K C).isSome && PySem.W.typeIn K (.ref C) == some (.type "type")) = true := by rw [hc, ht] <;> rfl
  show (if (cls == .ref C) = true then some true else (if ((PySem.W.clsIn K C).isSome && PySem.W.typeIn K (.ref C) == some (.type "type")) = true then PySem.W.subIn K cls (.ref C) else none)) = some b
  by_cases e : (cls == .ref C) = true
  · rw [if_pos e]
    have e' : cls = .ref C := beq_iff_eq.mp e
    rw [← e', hs] at h4
    exact h4
  · rw [if_neg e, if_pos e2]
    exact h4
theorem kit_ve {K : PySem.W.Frag} {C : Addr} {b : Bool} (h4 : PySem.W.subIn K (.ref C) (.type "ValueError") = some b) : PySem.W.kitOne K (.ref C) (.type "ValueError") = some b := by
  have e2 : PySem.W.kitMeta "ValueError" = true := by decide +kernel
  show (if ((Value.ref C) == .type "ValueError") = true then some true else (if PySem.W.kitMeta "ValueError" = true then PySem.W.subIn K (.ref C) (.type "ValueError") else none)) = some b
  rw [if_neg (show ¬ (((Value.ref C) == .type "ValueError") = true) from by simp), if_pos e2]
  exact h4
end DL

end
section
set_option maxRecDepth 100000
set_option maxHeartbeats 2000000
/-! the order of works: plain facts -/
namespace MQ
open PySem L2 DL
def InR (m : Nat) (prs : List (Int × Int)) : Prop := ∀ p ∈ prs, 0 ≤ p.1 ∧ p.1 < (m : Int) ∧ 0 ≤ p.2 ∧ p.2 < (m : Int)
/-- x may be next behind f, the least that may -/
structure Step (m : Nat) (prs : List (Int × Int)) (f : List Int) (x : Int) : Prop where
  lo : 0 ≤ x
  hi : x < (m : Int)
  new : x ∉ f
  ready : ∀ p ∈ prs, p.2 = x → p.1 ∈ f
  least : ∀ y, 0 ≤ y → y < x → y ∉ f → ∃ p ∈ prs, p.2 = y ∧ p.1 ∉ f
def Ord (m : Nat) (prs : List (Int × Int)) (f : List Int) : Prop := ∀ (k : Nat) (x : Int), f[k]? = some x → Step m prs (f.take k) x
structure IsOrd (m : Nat) (prs : List (Int × Int)) (os : List Int) : Prop where
  inr : InR m prs
  ord : Ord m prs os
  len : os.length = m
variable {m : Nat} {prs : List (Int × Int)} {f g : List Int} {x y : Int}
theorem Step.uniq (h : Step m prs f x) (g : Step m prs f y) : x = y := by
  rcases Int.lt_trichotomy x y with q | q | q
  · obtain ⟨p, hp, e, n⟩ := g.least x h.lo q h.new
    exact absurd (h.ready p hp e) n
  · exact q
  · obtain ⟨p, hp, e, n⟩ := h.least y g.lo q g.new
    exact absurd (g.ready p hp e) n
theorem Ord.nil : Ord m prs [] := fun k x h => by simp at h
theorem Ord.snoc (h : Ord m prs f) (s : Step m prs f x) : Ord m prs (f ++ [x]) := fun k y hy => by
  by_cases hk : k < f.length
  · rw [List.getElem?_append_left hk] at hy
    rw [List.take_append_of_le_length (by omega)]
    exact h k y hy
  · have hk2 := (List.getElem?_eq_some_iff.mp hy).1
    rw [List.length_append, List.length_singleton] at hk2
    have e : k = f.length := by omega
    subst e
    rw [List.getElem?_append_right (Nat.le_refl _), Nat.sub_self] at hy
    cases hy
    rw [List.take_left]
    exact s
theorem Ord.take_eq (h : Ord m prs f) (k' : Ord m prs g) : ∀ k, k ≤ f.length → k ≤ g.length → f.take k = g.take k
  | 0, _, _ => by simp
  | k + 1, h1, h2 => by
    have ih := Ord.take_eq h k' k (by omega) (by omega)
    have e1 : f[k]? = some f[k] := List.getElem?_eq_getElem (by omega)
    have e2 : g[k]? = some g[k] := List.getElem?_eq_getElem (by omega)
    have s1 := h k _ e1
    have s2 := k' k _ e2
    rw [ih] at s1
    rw [List.take_add_one, List.take_add_one, ih, e1, e2, s1.uniq s2]
theorem Ord.uniq (h : Ord m prs f) (k : Ord m prs g) (e : f.length = g.length) : f = g := by
  have := h.take_eq k f.length (Nat.le_refl _) (by omega)
  rw [List.take_length, List.take_of_length_le (by omega)] at this
  exact this
theorem Ord.bd (h : Ord m prs f) (hx : x ∈ f) : 0 ≤ x ∧ x < (m : Int) := by
  obtain ⟨k, hk⟩ := List.getElem?_of_mem hx
  exact ⟨(h k x hk).lo, (h k x hk).hi⟩
theorem Ord.nodup (h : Ord m prs f) : f.Nodup := by
  rw [List.nodup_iff_pairwise_ne, List.pairwise_iff_getElem]
  intro i j hi hj hij e
  have s := h j f[j] (List.getElem?_eq_getElem hj)
  exact s.new (by rw [← e]; exact List.mem_take_iff_getElem.mpr ⟨i, by omega, rfl⟩)
theorem len_sub : ∀ {l l2 : List Int}, l.Nodup → (∀ x ∈ l, x ∈ l2) → l.length ≤ l2.length
  | [], _, _, _ => by simp
  | a :: r, l2, hn, h => by
    obtain ⟨h1, h2⟩ := List.nodup_cons.mp hn
    have ha := h a (by simp)
    have := len_sub (l := r) (l2 := l2.erase a) h2 fun x hx => (List.mem_erase_of_ne (fun e => h1 (by rw [← e]; exact hx))).mpr (h x (by simp [hx]))
    rw [List.length_erase_of_mem ha] at this
    have := List.length_pos_of_mem ha
    rw [List.length_cons]
    omega
theorem IsOrd.dag (h : IsOrd m prs f) : Dag m prs := by
  have nd := h.ord.nodup
  have all : ∀ z : Int, 0 ≤ z → z < (m : Int) → z ∈ f := fun z h0 h1 => by
    apply Classical.byContradiction
    intro hz
    have sub : (z :: f).length ≤ ((List.range m).map fun i : Nat => (i : Int)).length := by
      refine len_sub (List.nodup_cons.mpr ⟨hz, nd⟩) fun u hu => ?_
      rw [List.mem_map]
      rcases List.mem_cons.mp hu with rfl | hu
      · exact ⟨u.toNat, List.mem_range.mpr (by omega), by omega⟩
      · have := h.ord.bd hu
        exact ⟨u.toNat, List.mem_range.mpr (by omega), by omega⟩
    have := sub
    rw [List.length_cons, List.length_map, List.length_range, h.len] at this
    omega
  refine ⟨fun z => f.idxOf z, fun p hp => ?_⟩
  obtain ⟨a1, a2, a3, a4⟩ := h.inr p hp
  refine ⟨a1, a2, a3, a4, ?_⟩
  obtain ⟨j, hj⟩ := List.getElem?_of_mem (all p.2 a3 a4)
  have s := h.ord j p.2 hj
  have ha := s.ready p hp rfl
  obtain ⟨i, hi, e⟩ := List.mem_take_iff_getElem.mp ha
  have e1 : f[i]? = some p.1 := by rw [← e]; exact List.getElem?_eq_getElem (by omega)
  show f.idxOf p.1 < f.idxOf p.2
  rw [idxOf_get nd e1, idxOf_get nd hj]
  omega
theorem exists_new (h : Ord m prs f) (hl : f.length < m) : ∃ z : Int, 0 ≤ z ∧ z < (m : Int) ∧ z ∉ f := by
  apply Classical.byContradiction
  intro hn
  have sub : ((List.range m).map fun i : Nat => (i : Int)).length ≤ f.length := by
    refine len_sub ?_ fun u hu => ?_
    · rw [List.nodup_iff_pairwise_ne, List.pairwise_map]
      exact (List.nodup_iff_pairwise_ne.mp List.nodup_range).imp fun h => by omega
    · obtain ⟨i, hi, rfl⟩ := List.mem_map.mp hu
      have := List.mem_range.mp hi
      apply Classical.byContradiction
      intro q
      exact hn ⟨(i : Int), by omega, by omega, q⟩
  have := sub
  rw [List.length_map, List.length_range] at this
  omega
/-- what may come next, if it is told which may -/
theorem least_of (P : Int → Prop) (h : ∃ z, 0 ≤ z ∧ z < (m : Int) ∧ P z) : ∃ z, 0 ≤ z ∧ z < (m : Int) ∧ P z ∧ ∀ y, 0 ≤ y → y < z → ¬ P y := by
  obtain ⟨z, h0, h1, hz⟩ := h
  have key : ∀ n : Nat, ∀ z : Int, z.toNat = n → 0 ≤ z → z < (m : Int) → P z → ∃ z, 0 ≤ z ∧ z < (m : Int) ∧ P z ∧ ∀ y, 0 ≤ y → y < z → ¬ P y := by
    intro n
    induction n using Nat.strongRecOn with
    | _ n ih =>
      intro z e h0 h1 hz
      by_cases q : ∃ y, 0 ≤ y ∧ y < z ∧ P y
      · obtain ⟨y, y0, y1, hy⟩ := q
        exact ih y.toNat (by omega) y rfl y0 (by omega) hy
      · exact ⟨z, h0, h1, hz, fun y y0 y1 hy => q ⟨y, y0, y1, hy⟩⟩
  exact key _ z rfl h0 h1 hz
theorem rank_least (rk : Int → Nat) (P : Int → Prop) (h : ∃ z, P z) : ∃ z, P z ∧ ∀ y, P y → rk z ≤ rk y := by
  obtain ⟨z, hz⟩ := h
  have key : ∀ n : Nat, ∀ z : Int, rk z = n → P z → ∃ z, P z ∧ ∀ y, P y → rk z ≤ rk y := by
    intro n
    induction n using Nat.strongRecOn with
    | _ n ih =>
      intro z e hz
      by_cases q : ∃ y, P y ∧ rk y < rk z
      · obtain ⟨y, hy, hl⟩ := q
        exact ih (rk y) (by omega) y rfl hy
      · exact ⟨z, hz, fun y hy => by
          apply Classical.byContradiction
          intro g
          exact q ⟨y, hy, by omega⟩⟩
  exact key _ z rfl hz
theorem Dag.step (hd : Dag m prs) (h : Ord m prs f) (hl : f.length < m) : ∃ x, Step m prs f x := by
  obtain ⟨rk, hr⟩ := hd
  obtain ⟨w, ⟨w0, w1, wn⟩, wl⟩ := rank_least rk (fun z => 0 ≤ z ∧ z < (m : Int) ∧ z ∉ f) (exists_new h hl)
  have wr : ∀ p ∈ prs, p.2 = w → p.1 ∈ f := fun p hp e => by
    apply Classical.byContradiction
    intro q
    obtain ⟨b1, b2, b3, b4, b5⟩ := hr p hp
    have := wl p.1 ⟨b1, b2, q⟩
    rw [e] at b5
    omega
  obtain ⟨z, z0, z1, ⟨zn, zr⟩, zl⟩ := least_of (m := m) (fun z => z ∉ f ∧ ∀ p ∈ prs, p.2 = z → p.1 ∈ f) ⟨w, w0, w1, wn, wr⟩
  refine ⟨z, z0, z1, zn, zr, fun y y0 y1 yn => ?_⟩
  apply Classical.byContradiction
  intro q
  refine zl y y0 y1 ⟨yn, fun p hp e => ?_⟩
  apply Classical.byContradiction
  intro q2
  exact q ⟨p, hp, e, q2⟩
theorem Dag.inr (h : Dag m prs) : InR m prs := fun p hp => by
  obtain ⟨rk, hr⟩ := h
  obtain ⟨b1, b2, b3, b4, _⟩ := hr p hp
  exact ⟨b1, b2, b3, b4⟩
theorem Dag.isOrd (hd : Dag m prs) : ∃ os, IsOrd m prs os := by
  have key : ∀ k : Nat, k ≤ m → ∃ f, Ord m prs f ∧ f.length = k := by
    intro k
    induction k with
    | zero => exact fun _ => ⟨[], .nil, rfl⟩
    | succ k ih =>
      intro hk
      obtain ⟨f, hf, hl⟩ := ih (by omega)
      obtain ⟨x, hx⟩ := hd.step hf (by omega)
      exact ⟨f ++ [x], hf.snoc hx, by rw [List.length_append, hl]; rfl⟩
  obtain ⟨f, hf, hl⟩ := key m (Nat.le_refl _)
  exact ⟨f, hd.inr, hf, hl⟩
/-! the works that are left -/
/-- left: those of 0 .. m - 1 that are not in f, in their order -/
def leftOf (m : Nat) (f : List Int) : List Int := ((List.range m).map fun i : Nat => (i : Int)).filter fun z => decide (z ∉ f)
theorem mem_left : x ∈ leftOf m f ↔ 0 ≤ x ∧ x < (m : Int) ∧ x ∉ f := by
  unfold leftOf
  rw [List.mem_filter, List.mem_map, decide_eq_true_eq]
  constructor
  · rintro ⟨⟨i, hi, rfl⟩, h⟩
    have := List.mem_range.mp hi
    exact ⟨by omega, by omega, h⟩
  · rintro ⟨h0, h1, h⟩
    exact ⟨⟨x.toNat, List.mem_range.mpr (by omega), by omega⟩, h⟩
theorem left_sorted : (leftOf m f).Pairwise (· < ·) := by
  unfold leftOf
  refine List.Pairwise.filter _ ?_
  rw [List.pairwise_map]
  exact List.pairwise_lt_range.imp fun h => by omega
theorem left_nil : leftOf m [] = (List.range m).map fun i : Nat => (i : Int) := by
  unfold leftOf
  simp
theorem erase_filter {l : List Int} (hn : l.Nodup) {j : Nat} (h : l[j]? = some x) : l.eraseIdx j = l.filter fun z => decide (z ≠ x) := by
  induction l generalizing j with
  | nil => simp at h
  | cons a r ih =>
    obtain ⟨h1, h2⟩ := List.nodup_cons.mp hn
    cases j with
    | zero =>
      simp at h
      subst h
      rw [List.eraseIdx_cons_zero, List.filter_cons]
      simp
      refine (List.filter_eq_self.mpr fun z hz => ?_).symm
      simp
      rintro rfl
      exact h1 hz
    | succ j =>
      rw [List.getElem?_cons_succ] at h
      rw [List.eraseIdx_cons_succ, ih h2 h, List.filter_cons]
      have : a ≠ x := by rintro rfl; exact h1 (List.mem_of_getElem? h)
      simp [this]
theorem left_snoc {j : Nat} (h : (leftOf m f)[j]? = some x) : (leftOf m f).eraseIdx j = leftOf m (f ++ [x]) := by
  have nd : (leftOf m f).Nodup := List.nodup_iff_pairwise_ne.mpr (left_sorted.imp fun h => by omega)
  rw [erase_filter nd h]
  unfold leftOf
  rw [List.filter_filter]
  refine List.filter_congr fun z _ => ?_
  simp only [List.mem_append, List.mem_singleton]
  by_cases h1 : z = x <;> by_cases h2 : z ∈ f <;> simp [h1, h2]
theorem left_len (h : Ord m prs f) : (leftOf m f).length + f.length = m := by
  have p : (leftOf m f ++ f).Perm ((List.range m).map fun i : Nat => (i : Int)) := by
    refine (List.perm_ext_iff_of_nodup ?_ ?_).mpr fun z => ?_
    · rw [List.nodup_append]
      refine ⟨List.nodup_iff_pairwise_ne.mpr (left_sorted.imp fun h => by omega), h.nodup, fun a ha b hb e => ?_⟩
      subst e
      exact (mem_left.mp ha).2.2 hb
    · rw [List.nodup_iff_pairwise_ne, List.pairwise_map]
      exact (List.nodup_iff_pairwise_ne.mp List.nodup_range).imp fun h => by omega
    · rw [List.mem_append, mem_left, List.mem_map]
      constructor
      · rintro (⟨h0, h1, _⟩ | hz)
        · exact ⟨z.toNat, List.mem_range.mpr (by omega), by omega⟩
        · have := h.bd hz
          exact ⟨z.toNat, List.mem_range.mpr (by omega), by omega⟩
      · rintro ⟨i, hi, rfl⟩
        have := List.mem_range.mp hi
        by_cases q : (i : Int) ∈ f
        · exact .inr q
        · exact .inl ⟨by omega, by omega, q⟩
  have := p.length_eq
  rw [List.length_append, List.length_map, List.length_range] at this
  exact this
/-- whether a work needs one of some works -/
def Waits (prs : List (Int × Int)) (w : Int) (left : List Int) : Prop := ∃ p ∈ prs, p.2 = w ∧ p.1 ∈ left
/-- the first that may be next -/
theorem step_of_ready (hi : InR m prs) (wb : Int → Bool) (hw : ∀ w, wb w = true ↔ Waits prs w (leftOf m f)) {rest : List Int} (h : (leftOf m f).filter (fun w => !wb w) = x :: rest) : Step m prs f x := by
  have mx : x ∈ (leftOf m f).filter (fun w => !wb w) := by rw [h]; simp
  rw [List.mem_filter, mem_left] at mx
  obtain ⟨⟨h0, h1, h2⟩, h3⟩ := mx
  have nw : ¬ Waits prs x (leftOf m f) := fun q => by rw [(hw x).mpr q] at h3; cases h3
  refine ⟨h0, h1, h2, fun p hp e => ?_, fun y y0 y1 yn => ?_⟩
  · apply Classical.byContradiction
    intro q
    obtain ⟨b1, b2, _⟩ := hi p hp
    exact nw ⟨p, hp, e, mem_left.mpr ⟨b1, b2, q⟩⟩
  · have ys : Waits prs y (leftOf m f) := by
      apply Classical.byContradiction
      intro q
      have my : y ∈ x :: rest := by
        rw [← h, List.mem_filter, mem_left]
        refine ⟨⟨y0, by omega, yn⟩, ?_⟩
        cases e : wb y with
        | false => rfl
        | true => exact absurd ((hw y).mp e) q
      have srt : (x :: rest).Pairwise (· < ·) := by rw [← h]; exact left_sorted.filter _
      rcases List.mem_cons.mp my with rfl | my
      · omega
      · have := (List.pairwise_cons.mp srt).1 y my
        omega
    obtain ⟨p, hp, e, q⟩ := ys
    exact ⟨p, hp, e, (mem_left.mp q).2.2⟩
theorem stuck_of (wb : Int → Bool) (hw : ∀ w, wb w = true ↔ Waits prs w (leftOf m f)) (h : (leftOf m f).filter (fun w => !wb w) = []) : ¬ ∃ x, Step m prs f x := by
  rintro ⟨x, s⟩
  have mx : x ∈ (leftOf m f).filter (fun w => !wb w) := by
    rw [List.mem_filter, mem_left]
    refine ⟨⟨s.lo, s.hi, s.new⟩, ?_⟩
    cases e : wb x with
    | false => rfl
    | true =>
      obtain ⟨p, hp, e1, q⟩ := (hw x).mp e
      exact absurd (s.ready p hp e1) (mem_left.mp q).2.2
  rw [h] at mx
  cases mx
end MQ
namespace DL
open PySem L2
/-! rows of ints -/
abbrev rL (rows : List (List Int)) : PyData := .list (rows.map iL)
theorem cut1 (row : List Int) : cutL (row.map PyData.int) (some 1) none = (row.drop 1).map PyData.int := by
  rw [cutL_map]
  exact congrArg _ (cutL_from row 1)
theorem head_at {row : List Int} (h : 0 < row.length) : atI (row.map PyData.int) 0 = some (.int (row.headD 0)) := by
  cases row with
  | nil => simp at h
  | cons a r => exact atI_zero
theorem forall_set {α : Type} {p : α → Prop} {xs : List α} {x : α} (h : ∀ y ∈ xs, p y) (hx : p x) (i : Nat) : ∀ y ∈ xs.set i x, p y := fun y hy => by
  rcases List.mem_or_eq_of_mem_set hy with q | q
  · exact h y q
  · rw [q]; exact hx
theorem way_rk {m : Int} {prs : List (Int × Int)} {ws : List Int} {rk : Int → Nat} (hr : ∀ p ∈ prs, rk p.1 < rk p.2) (w : MQ.IsWay m prs ws) : ∀ (j i : Nat) (a b : Int), i < j → ws[i]? = some a → ws[j]? = some b → rk a < rk b
  | 0, i, a, b, h, _, _ => by omega
  | j + 1, i, a, b, h, ha, hb => by
    obtain ⟨x, hx⟩ : ∃ x, ws[j]? = some x := ⟨_, List.getElem?_eq_getElem (by have := (List.getElem?_eq_some_iff.mp hb).1; omega)⟩
    have s := hr _ (w.2.1 j x b hx hb)
    simp only at s
    by_cases e : i = j
    · subst e
      rw [ha] at hx
      cases hx
      exact s
    · have := way_rk hr w j i a x (by omega) ha hx
      omega
theorem way_nodup {m : Int} {k : Nat} {prs : List (Int × Int)} {ws : List Int} (hd : MQ.Dag k prs) (w : MQ.IsWay m prs ws) : ws.Nodup := by
  obtain ⟨rk, hr⟩ := hd
  rw [List.nodup_iff_pairwise_ne, List.pairwise_iff_getElem]
  intro i j hi hj hij e
  have := way_rk (rk := rk) (fun p hp => (hr p hp).2.2.2.2) w j i ws[i] ws[j] hij (List.getElem?_eq_getElem hi) (List.getElem?_eq_getElem hj)
  rw [e] at this
  omega
end DL

end
section
set_option maxRecDepth 100000
set_option maxHeartbeats 2000000
/-! picks out of displays, what is known of a lot -/
namespace DL
open PySem PySem.Spec PyProof.Rows L2
section
variable {K : PySem.W.Frag} {c : Cq K} {B : Hp} {b : Bool} {ρ : Rho} {D : Ends} {ta tb : TE} {ds : List PyData} {i : Int} {P : PyData → Prop}
theorem en_pick (ha : EvE c b ta ρ ds) (hb : EvR c tb ρ (.int i)) (h0 : 0 ≤ i) (h1 : i < (ds.length : Int)) (hP : ∀ d ∈ ds, P d) : EvN c b (tOp (rIxL K) ta tb) ρ P := by
  obtain ⟨d, hm, h⟩ := atI_some h0 h1
  exact (ev_ix ha hb h).n (hP d hm)
/-- .. of a list that is only read, of plain things -/
theorem en_pickR (ha : EvR c ta ρ (.list ds)) (hb : EvR c tb ρ (.int i)) (h0 : 0 ≤ i) (h1 : i < (ds.length : Int)) (hP : ∀ d ∈ ds, isSca d = true ∧ P d) : EvN c b (tOp (rIxL K) ta tb) ρ P := by
  obtain ⟨d, hm, h⟩ := atI_some h0 h1
  exact ((ev_ixR ha hb h).sca (hP d hm).1).n (hP d hm).2
end
/-- works that keep their bounds -/
def WkOk (w : Int × Int × Int) : Prop := 0 ≤ w.2.1 ∧ w.2.1 ≤ w.1 ∧ 0 ≤ w.2.2 ∧ Sz 250 w.1 ∧ Sz 250 w.2.1 ∧ Sz 250 w.2.2
structure Lot (M : Nat) (works : List (Int × Int × Int)) (prs : List (Int × Int)) : Prop where
  len : works.length ≤ M
  ok : ∀ w ∈ works, WkOk w
  dag : MQ.Dag works.length prs
  nl : prs.length ≤ 64
theorem nat_of {x : Int} (h : 0 ≤ x) : ∃ n : Nat, x = (n : Int) := ⟨x.toNat, by omega⟩
/-- item by item -/
structure Each {α : Type} (P : α → PyData → Prop) (xs : List α) (ds : List PyData) : Prop where
  len : ds.length = xs.length
  at_ : ∀ (i : Nat) (x : α) (d : PyData), xs[i]? = some x → ds[i]? = some d → P x d
theorem Each.nil {α : Type} {P : α → PyData → Prop} : Each P [] [] := ⟨rfl, fun i x d h => by simp at h⟩
theorem Each.snoc {α : Type} {P : α → PyData → Prop} {xs : List α} {ds : List PyData} {u : α} {h : PyData} (e : Each P xs ds) (q : P u h) : Each P (xs ++ [u]) (ds ++ [h]) := ⟨by simp [e.len], fun i x d hx hd => by
  rcases Nat.lt_or_ge i xs.length with l | l
  · rw [List.getElem?_append_left l] at hx
    rw [List.getElem?_append_left (by rw [e.len]; exact l)] at hd
    exact e.at_ i x d hx hd
  · rw [List.getElem?_append_right l] at hx
    rw [List.getElem?_append_right (by rw [e.len]; exact l), e.len] at hd
    cases k : i - xs.length with
    | zero =>
      rw [k] at hx hd
      simp at hx hd
      subst hx; subst hd
      exact q
    | succ n =>
      rw [k] at hx
      simp at hx⟩
theorem Each.map {α β : Type} {f : β → PyData} {Q : α → β → Prop} : ∀ {xs : List α} {ds : List PyData}, Each (fun x d => ∃ w, d = f w ∧ Q x w) xs ds → ∃ ws : List β, ds = ws.map f ∧ ws.length = xs.length ∧ ∀ (i : Nat) (x : α) (w : β), xs[i]? = some x → ws[i]? = some w → Q x w
  | [], [], _ => ⟨[], rfl, rfl, fun i x w h => by simp at h⟩
  | [], _ :: _, e => by have := e.len; simp at this
  | _ :: _, [], e => by have := e.len; simp at this
  | x :: xs, d :: ds, e => by
    obtain ⟨w, rfl, q⟩ := e.at_ 0 x d rfl rfl
    obtain ⟨ws, rfl, l, r⟩ := Each.map (f := f) (Q := Q) (xs := xs) (ds := ds) ⟨by have := e.len; simpa using this, fun i y z h1 h2 => e.at_ (i + 1) y z (by simpa using h1) (by simpa using h2)⟩
    refine ⟨w :: ws, rfl, by simp [l], fun i y z h1 h2 => ?_⟩
    cases i with
    | zero => simp at h1 h2; subst h1; subst h2; exact q
    | succ n => exact r n y z (by simpa using h1) (by simpa using h2)
section
variable {K : PySem.W.Frag} {c : Cq K} {b b0 : Bool} {ρ : Rho} {g : TG} {tt : TT} {te tl : TE} {ta : TA} {vs js : List Nat} {i j : Int}
theorem lc_turnN {O : Addr → Prop} {σ : St} {F1 H1 F' H' : Hp} {D : Addr} {acc : List PyData} {ys : List V} {ρ' : Rho} {p : Bool} {PP : PyData → Prop} {x : V} {d : PyData} {Pn : Hp → Prop} (I : LcInv c b O ρ σ F1 H1 D acc F' H' ys) (hD : H1 D = none) (nD : ¬ ownA ρ σ D) (dx : Dd (c.pw b0) F' x d)
    (ht : TgOk c b0 g js (wipeR ρ vs) d ρ' ∧ EvB c tt ρ' p ∧ (p = true → EvN c b te ρ' PP)) (hjs : ∀ j ∈ js, j ∈ vs) (hz : acc.length < 50000)
    (hP0 : p = false → ∀ F2 H2 ys2, LcInv c b O ρ σ F1 H1 D acc F2 H2 ys2 → Pn H2) (hP1 : p = true → ∀ h F2 H2 ys2, PP h → LcInv c b O ρ σ F1 H1 D (acc ++ [h]) F2 H2 ys2 → Pn H2) :
    g x (wipe σ vs) H' fun σ2 H2 => wipe σ2 vs = wipe σ vs ∧ tt σ2 H2 fun bb H3 => if bb = true then te σ2 H3 fun y H4 => ∃ acc, H4 D = some (.lst acc) ∧ acc.length < sizeLine ∧ Pn (upd H4 D (.lst (acc ++ [y]))) else Pn H3 := by
  obtain ⟨tg, eb, ee⟩ := ht
  have S0 : Sim c (fun a => O a ∨ a = D ∨ ownA ρ σ a) ρ σ F' H' := I.sim.sub fun a h => by
    rcases h with h | h | h
    · exact I.sim.prot a h
    · subst h; exact ⟨I.fD, by rw [I.at_]; simp⟩
    · exact I.sim.ownA_prot h
  refine tg _ _ F' H' x (S0.wipe vs) dx _ fun σ2 l2 a2 S2 => ⟨wipe_eq l2 a2 hjs, eb _ σ2 F' H' S2 _ fun F3 H3 e3 g3 S3 => ?_⟩
  cases p with
  | false =>
    refine iteF (hP0 rfl F3 H3 ys ⟨I.ef.trans e3, I.eh.trans g3, g3 _ _ I.at_, (S3.prot D (.inr (.inl rfl))).1, ?_, I.dd.ex e3⟩)
    exact I.sim.again0 e3 g3 S3.ff (fun a h => (S3.prot a (.inl h)).1) fun a h => (S3.prot a (.inr (.inr h))).1
  | true =>
    refine iteT (ee rfl _ σ2 F3 H3 S3 _ fun hd y F4 H4 hp e4 g4 S4 dy => ?_)
    have fD4 : F4 D = none := (S4.prot D (.inr (.inl rfl))).1
    refine ⟨ys, g4 _ _ (g3 _ _ I.at_), Nat.lt_of_lt_of_le (by rw [I.dd.length]; exact hz) (by decide), hP1 rfl hd F4 _ (ys ++ [y]) hp ⟨I.ef.trans (e3.trans e4), (I.eh.trans (g3.trans g4)).mut hD, upd_same, fD4, ?_, ?_⟩⟩
    · exact I.sim.again (e3.trans e4) (g3.trans g4) S4.ff (fun a h => (S4.prot a (.inl h)).1) (fun a h => (S4.prot a (.inr (.inr h))).1) nD fD4
    · exact (I.dd.ex (e3.trans e4)).append (.one dy)
theorem take_filter {α : Type} (xs : List α) (p : α → Bool) {i : Nat} {u : α} (e : xs[i]? = some u) : (xs.take (i + 1)).filter p = if p u then (xs.take i).filter p ++ [u] else (xs.take i).filter p := by
  rw [List.take_add_one, e]
  simp only [Option.toList, List.filter_append]
  cases q : p u <;> simp [q]
/-- .. whose items are known only by what holds of them -/
theorem el_lcN {α : Type} {xs : List α} {enc : α → PyData} (p : α → Bool) (P : α → PyData → Prop) (hl : EvE c b0 tl ρ (xs.map enc)) (hz : xs.length ≤ 40000) (hjs : ∀ j ∈ js, j ∈ vs)
    (ht : ∀ x ∈ xs, ∃ ρ', TgOk c b0 g js (wipeR ρ vs) (enc x) ρ' ∧ EvB c tt ρ' (p x) ∧ (p x = true → EvN c b te ρ' (P x))) :
    EvLN c b (tLc (iList K tl) g tt te vs) ρ (Each P (xs.filter p)) := fun O σ F H S Q k => by
  refine hl O σ F H S _ fun a xv F1 H1 e1 h1 S1 r1 d1 => ⟨a, rfl, ⟨_, r1⟩, fun D hD => ?_⟩
  have nD : ¬ ownA ρ σ D := fun z => (S1.ownA_prot z).2 hD
  have lenx : xv.length = xs.length := by rw [d1.length, List.length_map]
  refine lc_list (K := K) (a := a) (xs := xv) (fun i H' => ∃ ds F' ys, Each P ((xs.take i).filter p) ds ∧ LcInv c b O ρ σ F1 H1 D ds F' H' ys) ?_ ?_ ?_ ?_
  · exact ⟨[], F1, [], by simp; exact .nil, Evl.Ex.refl _, Evl.Ex.new hD, upd_same, S1.fresh hD, S1.lay hD, .nil⟩
  · rintro i H' hi ⟨ds, F', ys, E, I⟩
    exact sq_ex I.eh r1
  · rintro i x H' hx ⟨ds, F', ys, E, I⟩
    obtain ⟨d, hd, dd⟩ := d1.getV hx
    rw [List.getElem?_map] at hd
    cases hu : xs[i]? with
    | none => rw [hu] at hd; cases hd
    | some u =>
      rw [hu] at hd
      cases hd
      obtain ⟨ρ', ht'⟩ := ht u (List.mem_of_getElem? hu)
      refine lc_turnN I hD nD (dd.ex I.ef) ht' hjs ?_ (fun pf F2 H2 ys2 I2 => ⟨ds, F2, ys2, ?_, I2⟩) fun pt h F2 H2 ys2 hh I2 => ⟨ds ++ [h], F2, ys2, ?_, I2⟩
      · rw [E.len]
        have q1 := List.length_filter_le p (xs.take i)
        have q2 : (xs.take i).length ≤ xs.length := by rw [List.length_take]; omega
        omega
      · rw [take_filter xs p hu, pf]; exact E
      · rw [take_filter xs p hu, pt]; exact E.snoc hh
  · rintro H' ⟨ds, F', ys, E, I⟩
    rw [lenx, List.take_length] at E
    exact k ds D ys F' H' E (e1.trans I.ef) (h1.trans I.eh) I.sim (Evl.fresh_back h1 hD) I.fD I.at_ (fun i s o q1 q2 q3 => nD ⟨i, s, o, q1, q2, q3⟩) I.dd
theorem el_lcRN {n : Nat} (P : Nat → PyData → Prop) (hl : EvA c ta ρ [.int (n : Int)]) (hz : n ≤ 40000) (hjs : ∀ j ∈ js, j ∈ vs)
    (ht : ∀ x, x < n → ∃ ρ', TgOk c true g js (wipeR ρ vs) (.int (x : Int)) ρ' ∧ EvN c b te ρ' (P x)) :
    EvLN c b (tLc (iRng1 ta) g tYes te vs) ρ (Each P (List.range n)) := fun O σ F H S Q k => by
  refine hl O σ F H S _ fun ws F1 H1 e1 h1 S1 d1 => ?_
  cases d1 with
  | cons q1 q2 =>
    cases q1; cases q2
    refine ⟨(n : Int), rfl, by omega, by omega, fun D hD => ?_⟩
    have nD : ¬ ownA ρ σ D := fun z => (S1.ownA_prot z).2 hD
    have en : ((n : Int)).toNat = n := by omega
    rw [en]
    refine lc_range (lo := 0) (n := n) (fun i H' => ∃ ds F' ys, Each P ((List.range n).take i) ds ∧ LcInv c b O ρ σ F1 H1 D ds F' H' ys) ?_ ?_ ?_
    · exact ⟨[], F1, [], by simp; exact .nil, Evl.Ex.refl _, Evl.Ex.new hD, upd_same, S1.fresh hD, S1.lay hD, .nil⟩
    · rintro i H' hi ⟨ds, F', ys, E, I⟩
      obtain ⟨ρ', t1, t2⟩ := ht i hi
      have hu : (List.range n)[i]? = some i := by simp [hi]
      refine lc_turnN (d := .int (i : Int)) I hD nD (by rw [Int.zero_add]; exact .int _) ⟨t1, eb_yes, fun _ => t2⟩ hjs ?_ (fun pf => nomatch pf) fun pt h F2 H2 ys2 hh I2 => ⟨ds ++ [h], F2, ys2, ?_, I2⟩
      · rw [E.len, List.length_take, List.length_range]
        omega
      · rw [List.take_add_one, hu]
        exact E.snoc hh
    · rintro H' ⟨ds, F', ys, E, I⟩
      rw [List.take_of_length_le (by simp)] at E
      exact k ds D ys F' H' E (e1.trans I.ef) (h1.trans I.eh) I.sim (Evl.fresh_back h1 hD) I.fD I.at_ (fun i s o q1 q2 q3 => nD ⟨i, s, o, q1, q2, q3⟩) I.dd
end
theorem MQ.Picks.insert {m : Nat} {rs : List Int} {prs : List (Int × Int)} (h : MQ.Picks m rs prs) {i j : Nat} {x y : Int} (k : Nat) (hij : i < j) (hj : j < m) (h1 : rs[i]? = some x) (h2 : rs[j]? = some y) : MQ.Picks m rs (prs.take k ++ [(x, y)] ++ prs.drop k) := fun p hp => by
  rcases List.mem_append.mp hp with hp | hp
  · rcases List.mem_append.mp hp with hp | hp
    · exact h p (List.mem_of_mem_take hp)
    · rw [List.mem_singleton] at hp
      subst hp
      exact ⟨i, j, hij, hj, h1, h2⟩
  · exact h p (List.mem_of_mem_drop hp)
theorem MQ.Picks.sub {m : Nat} {rs : List Int} {prs prs' : List (Int × Int)} (h : MQ.Picks m rs prs) (hs : ∀ p ∈ prs', p ∈ prs) : MQ.Picks m rs prs' := fun p hp => h p (hs p hp)
/-! ### defs of whose result something holds, or that raise -/
def spY (K : PySem.W.Frag) (P : List PyData → Prop) (R : List PyData → PyData → Prop) (X : List PyData → Addr → Prop) : Sp := fun vs H Q E => ∃ ds, DdAll (T1 K) H vs ds ∧ ((P ds ∧ ∀ r v H', R ds r → Ex H H' → Dd (only fun a => H a = none) H' v r → Q v H') ∨ ∃ C, X ds C ∧ ∀ H', Ex H H' → E (.ref C) none H')
/-- .. or lists of the caller's own, where RL speaks -/
def spW (K : PySem.W.Frag) (P : List PyData → Prop) (R : List PyData → PyData → Prop) (RL : List PyData → List PyData → Prop) (X : List PyData → Addr → Prop) : Sp := fun vs H Q E => ∃ ds, DdAll (T1 K) H vs ds ∧
  ((P ds ∧ (∀ r v H', R ds r → Ex H H' → Dd (only fun a => H a = none) H' v r → Q v H') ∧ (∀ r p xs H', RL ds r → Ex H H' → H p = none → H' p = some (.lst xs) → DdAll (only fun a => H a = none ∧ a ≠ p) H' xs r → Q (.ref p) H')) ∨ ∃ C, X ds C ∧ ∀ H', Ex H H' → E (.ref C) none H')
section
variable {K : PySem.W.Frag} {c : Cq K} {B : Hp} {b b' : Bool} {ρ : Rho} {D D' : Ends} {te : TE} {ta : TA} {tl : TE} {tt : TT} {tb tz u : TS} {g : TG} {vs : List Nat} {ds : List PyData} {d r : PyData} {C : Addr} {cc : Value} {i j : Nat} {PP : List PyData → Prop} {R : List PyData → PyData → Prop} {RL : List PyData → List PyData → Prop} {Xr : List PyData → Addr → Prop}
theorem ev_callY {E : XK} (h : EvA c ta ρ ds) (hP : PP ds) : EvN c b (tCall (spY K PP R Xr) [] E ta) ρ (R ds) := fun O σ F H S Q k => h O σ F H S _ fun vs F1 H1 e1 h1 S1 d1 => by
  refine ⟨ds, by rw [List.append_nil]; exact d1, .inl ⟨hP, fun r v H' hR e2 dd => ?_⟩⟩
  exact k r v _ H' hR (e1.trans (addF_ex S1.ff)) (h1.trans e2) (S1.add e2) (dd.add S1 b)
theorem ez_callY {E : XK} (h : EvA c ta ρ ds) (hX : Xr ds C) (hE : ∀ H', Ex c.H0 H' → E (.ref C) none H') : EvZ c (tCall (spY K PP R Xr) [] E ta) ρ := fun O σ F H S Q => h O σ F H S _ fun vs F1 H1 e1 h1 S1 d1 =>
  ⟨ds, by rw [List.append_nil]; exact d1, .inr ⟨C, hX, fun H' e2 => hE H' (S1.bb.trans e2)⟩⟩
/-- the call hands something back that is dropped -/
theorem go_dropYS {E : St → XK} (h : EvA c ta ρ ds) (hP : PP ds) (k : Nx c B D ρ) : Go c B (tDrop (tCallS (spY K PP R Xr) E ta)) D ρ := fun O σ F H e S => h O σ F H S _ fun vs F1 H1 e1 h1 S1 d1 =>
  ⟨ds, d1, .inl ⟨hP, fun r v H' hR e2 dd => k O σ _ H' (e.trans (e1.trans (addF_ex S1.ff))) (S1.add e2)⟩⟩
theorem caught_nx {O : Addr → Prop} {σ : St} {F H : Hp} (S : Sim c O ρ σ F H) (e : Ex B F) (he : PySem.W.exmOne K (.ref C) cc = some true) (hi : i < ρ.length) (k : Nx c B D' ((ρ.set i .no).set j (.exc (.ref C)))) (ij : i ≠ j) : ∀ H', Ex H H' → WE (wKeep K cc i (fun _ => tAsg (tVar i) (gName j)) D') σ (.ref C) none H' := fun H' e2 => ⟨he, rfl, fun a na => by
  have li : i < σ.length := by rw [S.len]; exact hi
  refine ⟨.ref a, by rw [List.getElem?_set_self li], ?_⟩
  have S2 := S.add e2
  have fa : addF F H H' a = none := Evl.fresh_back S2.ff na
  have ef : Ex (addF F H H') (upd (addF F H H') a (.ext (Caught (.ref C) a))) := Evl.Ex.new fa
  have S3 : Sim c O ρ σ (upd (addF F H H') a (.ext (Caught (.ref C) a))) (upd H' a (.ext (Caught (.ref C) a))) := S2.grow ef (Evl.Ex.new na) (fun x hx fx => by
    rw [upd_ne (fun z => hx (by rw [z]; exact na))]; exact fx) fun x o q => by
    by_cases z : x = a
    · subst z; rw [upd_same] at q ⊢; exact q
    · rw [upd_ne z] at q ⊢; exact S2.ff x o q
  have S4 := (S3.setS (j := i) (s := .no) (o := none) trivial fun a (h : False) => h.elim).setS (j := j) (s := .exc (.ref C)) (o := some (.ref a)) ⟨a, rfl, upd_same⟩ fun a (h : False) => h.elim
  have es : ((σ.set i (some (V.ref a))).set j (some (V.ref a))).set i none = (σ.set i none).set j (some (V.ref a)) := by
    rw [List.set_comm _ _ ij.symm, List.set_set]
  show D'.nx (((σ.set i (some (V.ref a))).set j (some (V.ref a))).set i none) _
  rw [es]
  exact k O _ _ _ (e.trans ((addF_ex S.ff).trans ef)) S4⟩
/-- its error is caught -/
theorem go_dropYK (h : EvA c ta ρ ds) (hX : Xr ds C) (he : PySem.W.exmOne K (.ref C) cc = some true) (hi : i < ρ.length) (k : Nx c B D' ((ρ.set i .no).set j (.exc (.ref C)))) (ij : i ≠ j := by decide) :
    Go c B (tDrop (tCallS (spY K PP R Xr) (WE (wKeep K cc i (fun _ => tAsg (tVar i) (gName j)) D')) ta)) D ρ := fun O σ F H e S => h O σ F H S _ fun vs F1 H1 e1 h1 S1 d1 =>
  ⟨ds, d1, .inr ⟨C, hX, caught_nx S1 (e.trans e1) he hi k ij⟩⟩
theorem ev_callW {E : XK} (h : EvA c ta ρ ds) (hP : PP ds) (hno : ∀ r, ¬ RL ds r) : EvN c b (tCall (spW K PP R RL Xr) [] E ta) ρ (R ds) := fun O σ F H S Q k => h O σ F H S _ fun vs F1 H1 e1 h1 S1 d1 => by
  refine ⟨ds, by rw [List.append_nil]; exact d1, .inl ⟨hP, fun r v H' hR e2 dd => ?_, fun r p xs H' hR => (hno r hR).elim⟩⟩
  exact k r v _ H' hR (e1.trans (addF_ex S1.ff)) (h1.trans e2) (S1.add e2) (dd.add S1 b)
theorem el_callW {E : XK} (h : EvA c ta ρ ds) (hP : PP ds) (hno : ∀ r, ¬ R ds r) : EvLN c b (tCall (spW K PP R RL Xr) [] E ta) ρ (RL ds) := fun O σ F H S Q k => h O σ F H S _ fun vs F1 H1 e1 h1 S1 d1 => by
  refine ⟨ds, by rw [List.append_nil]; exact d1, .inl ⟨hP, fun r v H' hR => (hno r hR).elim, fun rl p xs H' hR e2 hp at_ dd => ?_⟩⟩
  have f1 : F1 p = none := S1.fresh hp
  let F2 : Hp := fun a => if a = p then none else addF F1 H1 H' a
  have ef : Ex F1 F2 := fun a o q => by
    show (if a = p then none else addF F1 H1 H' a) = some o
    rw [if_neg (fun z => by rw [z, f1] at q; cases q)]
    exact addF_ex S1.ff a o q
  have ff : Ex F2 H' := fun a o q => by
    have q' : (if a = p then none else addF F1 H1 H' a) = some o := q
    split at q'
    · cases q'
    · exact addF_sub S1.ff e2 a o q'
  have S2 : Sim c O ρ σ F2 H' := S1.grow ef e2 (fun a hn f0 => by
    show (if a = p then none else addF F1 H1 H' a) = none
    split
    · rfl
    · rw [addF_old hn]; exact f0) ff
  refine k rl p xs F2 H' hR (e1.trans ef) (h1.trans e2) S2 (Evl.fresh_back h1 hp) (if_pos rfl) at_ (S.notOwn (Evl.fresh_back h1 hp)) ?_
  refine dd.mono (fun a u (pa : H1 a = none ∧ a ≠ p) ra => ⟨Cq.any (Evl.fresh_back S1.bb pa.1), ?_⟩) fun _ _ (h : False) => h.elim
  have z : F2 a = addF F1 H1 H' a := if_neg pa.2
  exact z.trans ((addF_new pa.1).trans ra)
theorem ez_callW {E : XK} (h : EvA c ta ρ ds) (hX : Xr ds C) (hE : ∀ H', Ex c.H0 H' → E (.ref C) none H') : EvZ c (tCall (spW K PP R RL Xr) [] E ta) ρ := fun O σ F H S Q => h O σ F H S _ fun vs F1 H1 e1 h1 S1 d1 =>
  ⟨ds, by rw [List.append_nil]; exact d1, .inr ⟨C, hX, fun H' e2 => hE H' (S1.bb.trans e2)⟩⟩
theorem go_dropWK (h : EvA c ta ρ ds) (hX : Xr ds C) (he : PySem.W.exmOne K (.ref C) cc = some true) (hi : i < ρ.length) (k : Nx c B D' ((ρ.set i .no).set j (.exc (.ref C)))) (ij : i ≠ j := by decide) :
    Go c B (tDrop (tCallS (spW K PP R RL Xr) (WE (wKeep K cc i (fun _ => tAsg (tVar i) (gName j)) D')) ta)) D ρ := fun O σ F H e S => h O σ F H S _ fun vs F1 H1 e1 h1 S1 d1 =>
  ⟨ds, d1, .inr ⟨C, hX, caught_nx S1 (e.trans e1) he hi k ij⟩⟩
theorem en_tup {t : TA} {PA : List PyData → Prop} (h : EvFN c b t ρ PA) (hl : ∀ ds, PA ds → ds.length ≤ 100000) : EvN c b (tTup t) ρ (fun d => ∃ ds, d = .tuple ds ∧ PA ds) := fun O σ F H S Q k => h O σ F H S _ fun ds vs F1 H1 pa e1 h1 S1 d1 =>
  ⟨Evl.sz_of (by rw [d1.length]; exact hl ds pa), fun p hp => by
    have e2 : Ex H1 (upd H1 p (.tup vs)) := Evl.Ex.new hp
    have n0 : c.H0 p = none := Evl.fresh_back S1.bb hp
    refine k _ _ (addF F1 H1 (upd H1 p (.tup vs))) _ ⟨ds, rfl, pa⟩ (e1.trans (addF_ex S1.ff)) (h1.trans e2) (S1.add e2) (.tup (Cq.any n0) (.inl (by rw [addF_new hp]; exact upd_same)) (d1.ex (addF_ex S1.ff)))⟩
theorem go_retELN {PA : List PyData → Prop} (hc : ∀ a, c.NW a → c.H0 a = none) (h : EvLN c true te ρ PA) (k : ∀ ds, PA ds → RtL c D.rt ds) : Go c B (tRet te) D ρ := fun O σ F H e S => h O σ F H S _ fun ds p xs F1 H1 pa e1 h1 S1 hp fp at_ no dd => retL_sim S1 hc fp at_ dd (k ds pa)
/-- tests of which something is known -/
def EvBN {K : PySem.W.Frag} (c : Cq K) (tt : TT) (ρ : Rho) (P : Bool → Prop) : Prop := ∀ (O : Addr → Prop) (σ : St) (F H : Hp), Sim c O ρ σ F H → ∀ Q : Bool → Hp → Prop, (∀ x F' H', P x → Ex F F' → Ex H H' → Sim c O ρ σ F' H' → Q x H') → tt σ H Q
theorem eb_testN {P : Bool → Prop} (h : EvN c b te ρ (fun d => ∃ x, d = .bool x ∧ P x)) : EvBN c (tTest te) ρ P := fun O σ F H S Q k => h O σ F H S _ fun d v F1 H1 pd e1 h1 S1 d1 => by
  obtain ⟨x, rfl, px⟩ := pd
  cases d1
  exact ⟨x, rfl, k x F1 H1 px e1 h1 S1⟩
theorem en_op0 {ta tb : TE} {f : Int → Int → V} {g : Int → Int → PyData} {Pi Pj : Int → Prop} (ha : EvN c b ta ρ (fun d => ∃ i, d = .int i ∧ Pi i)) (hb : EvN c b tb ρ (fun d => ∃ j, d = .int j ∧ Pj j)) (hg : ∀ i j, Sca (f i j) (g i j)) : EvN c b (tOp (rI0 f) ta tb) ρ (fun d => ∃ i j, d = g i j ∧ Pi i ∧ Pj j) := fun O σ F H S Q k =>
  ha O σ F H S _ fun d v F1 H1 p1 e1 h1 S1 d1 => hb O σ F1 H1 S1 _ fun d' w F2 H2 p2 e2 h2 S2 d2 => by
    obtain ⟨i, rfl, pi⟩ := p1
    obtain ⟨j, rfl, pj⟩ := p2
    cases d1; cases d2
    exact ⟨i, j, rfl, rfl, k (g i j) _ F2 H2 ⟨i, j, rfl, pi, pj⟩ (e1.trans e2) (h1.trans h2) S2 (hg i j).dd⟩
theorem ev_divmod {ta tb : TE} {x y : Int} (ha : EvR c ta ρ (.int x)) (hb : EvR c tb ρ (.int y)) (hd : CDivW x y) : Ev c b (tCB (fun xs H Q => ∃ i j, xs = [V.int i, .int j] ∧ CDivP i j ∧ ∀ p, H p = none → Q (.ref p) (upd H p (.tup [.int (i / j), .int (i % j)]))) (tCons ta (tCons tb tNil))) ρ (.tuple [.int (x / y), .int (x % y)]) := fun O σ F H S Q k =>
  ha O σ F H S _ fun v F0 H0 e0 h0 S0 d0 => hb O σ F0 H0 S0 _ fun w F1 H1 e1 h1 S1 d1 => by
    cases d0; cases d1
    refine ⟨x, y, rfl, ⟨hd.1, PyProof.noPylong_of_log2 hd.2⟩, fun p hp => ?_⟩
    have e2 : Ex H1 (upd H1 p (.tup [.int (x / y), .int (x % y)])) := Evl.Ex.new hp
    have n0 : c.H0 p = none := Evl.fresh_back S1.bb hp
    exact k _ (addF F1 H1 (upd H1 p (.tup [.int (x / y), .int (x % y)]))) _ (e0.trans (e1.trans (addF_ex S1.ff))) (h0.trans (h1.trans e2)) (S1.add e2) (.tup (Cq.any n0) (.inl (by rw [addF_new hp]; exact upd_same)) (.cons (.int _) (.cons (.int _) .nil)))
theorem q_tryC {tbw : WX → TS} {ρ' : Rho} (hf : Nx c B { D with nx := tz D } ρ') (h : Nx c B { D with nx := tz D } ρ' → Go c B (tbw (wKeep K cc i (fun _ => tAsg (tVar i) (gName j)) { D with nx := tz D })) { D with nx := tz D } ρ) : Go c B (tSeq (tTryK K cc i j tbw) tz) D ρ := h hf
theorem en_neI {ta tb : TE} {j : Int} {Pi : Int → Prop} (ha : EvN c b ta ρ (fun d => ∃ i, d = .int i ∧ Pi i)) (hb : EvR c tb ρ (.int j)) : EvN c b (tOp rNe ta tb) ρ (fun d => ∃ x, d = .bool x ∧ ∃ i, x = (!decide (i = j)) ∧ Pi i) := fun O σ F H S Q k =>
  ha O σ F H S _ fun d v F1 H1 p1 e1 h1 S1 d1 => hb O σ F1 H1 S1 _ fun w F2 H2 e2 h2 S2 d2 => by
    obtain ⟨i, rfl, pi⟩ := p1
    have q := scal_of d1 d2 rfl
    refine ⟨q.1, ?_⟩
    rw [q.2]
    exact k (.bool (!decide (i = j))) _ F2 H2 ⟨_, rfl, i, rfl, pi⟩ (e1.trans e2) (h1.trans h2) S2 (by show Dd _ _ (V.bl (!(i == j))) _; rw [Bool.beq_eq_decide_eq]; exact .bl _)
theorem eb_orN {tu : TT} {x : Bool} {P : Bool → Prop} (h : EvB c tt ρ x) (h2 : x = false → EvBN c tu ρ P) (hx : x = true → P true) : EvBN c (tOr tt tu) ρ P := fun O σ F H S Q k => h O σ F H S _ fun F1 H1 e1 h1 S1 => by
  cases x with
  | true => exact iteT (k true F1 H1 (hx rfl) e1 h1 S1)
  | false => exact iteF (h2 rfl O σ F1 H1 S1 Q fun y F2 H2 p e2 h2 S2 => k y F2 H2 p (e1.trans e2) (h1.trans h2) S2)
theorem q_whenN {P : Bool → Prop} (h : EvBN c tt ρ P) (h1 : P true → Go c B tb { D with nx := tz D } ρ) (h2 : P false → Go c B tz D ρ) : Go c B (tSeq (tIfS tt tb tNext) tz) D ρ := fun O σ F H e S => h O σ F H S _ fun x F1 H1 p e1 g1 S1 => by
  cases x with
  | true => exact iteT (h1 p O σ F1 H1 (e.trans e1) S1)
  | false => exact iteF (h2 p O σ F1 H1 (e.trans e1) S1)
/-! an error on the way -/
theorem z_for (h : EvZ c tl ρ) : Go c B (tFor (iList K tl) g tb) D ρ := fun O σ F H e S => h O σ F H S _
theorem zq_asg (h : EvZ c te ρ) : Go c B (tSeq (tAsg te g) tz) D ρ := fun O σ F H e S => h O σ F H S _
theorem zq_drop (h : EvZ c te ρ) : Go c B (tSeq (tDrop te) tz) D ρ := fun O σ F H e S => h O σ F H S _
theorem zq_for (h : EvZ c tl ρ) : Go c B (tSeq (tFor (iList K tl) g tb) tz) D ρ := fun O σ F H e S => h O σ F H S _
theorem zq_lc (h : EvZ c tl ρ) : EvZ c (tLc (iList K tl) g tt te vs) ρ := fun O σ F H S Q => h O σ F H S _
theorem z_if (h : EvZ c te ρ) : Go c B (tIfS (tTest te) tb u) D ρ := fun O σ F H e S => h O σ F H S _
theorem zq_if (h : EvZ c te ρ) : Go c B (tSeq (tIfS (tTest te) tb u) tz) D ρ := fun O σ F H e S => h O σ F H S _
theorem zq_cut (h : EvZ c te ρ) : Go c B (Evl.tCut (tIfS (tTest te) tb u) tz) D ρ := fun O σ F H e S => ⟨_, h O σ F H S _, fun _ _ h => h⟩
def EvZA {K : PySem.W.Frag} (c : Cq K) (ta : TA) (ρ : Rho) : Prop := ∀ (O : Addr → Prop) (σ : St) (F H : Hp), Sim c O ρ σ F H → ∀ Q : List V → Hp → Prop, ta σ H Q
theorem za_hd (h : EvZ c te ρ) : EvZA c (tCons te ta) ρ := fun O σ F H S Q => h O σ F H S _
theorem za_tl (h1 : EvR c te ρ d) (h : EvZA c ta ρ) : EvZA c (tCons te ta) ρ := fun O σ F H S Q => h1 O σ F H S _ fun v F1 H1 _ _ S1 _ => h O σ F1 H1 S1 _
theorem zc_cb {rr : List V → Hp → VK → Prop} (h : EvZA c ta ρ) : EvZ c (tCB rr ta) ρ := fun O σ F H S Q => h O σ F H S _
theorem zo_r' {rr : R2} {tf : TE} (h1 : EvR c tf ρ d) (h : EvZ c te ρ) : EvZ c (tOp rr tf te) ρ := fun O σ F H S Q => h1 O σ F H S _ fun v F1 H1 _ _ S1 _ => h O σ F1 H1 S1 _
end
section
variable {P : Program} {w : World} {K : PySem.W.Frag} {mg : Str → Option Value} {base : Heap} {x : Str} {st : Stmt} {N ps : List Str} {k : Nat} {PP : List PyData → Prop}
theorem cl_Y {R : List PyData → PyData → Prop} {X : List PyData → Addr → Prop} (D : Dfn K mg x st ps) (S : FnScope N ps (defScope st)) (hlen : ∀ ds, PP ds → ds.length = ps.length) (hlenX : ∀ ds C, X ds C → ds.length = ps.length)
    (hbody : ∀ (f : Addr) (cdv : Value) (A : Around) (outer : List Env) (s : Shared) (H : Hp) (E : XK), Room k (A.deeper (envOfC x (defScope st) s.heap.objs.size f cdv)) →
      ∃ t, PSs (cxOf (L2.CX P w) P w K mg base N x (defScope st) f cdv A outer s H E) (defBody st) t ∧
        (∀ (Q : VK) (c : Cq K) ds, PP ds → (∀ r, R ds r → Rt c Q r) → Go c c.H0 t { nx := fun _ H' => Q .non H', rt := Q } (ds.map (Sl.val false) ++ List.replicate (N.length - ds.length) Sl.no)) ∧
        (∀ (Q : VK) (c : Cq K) ds C, X ds C → (∀ H', Ex c.H0 H' → E (.ref C) none H') → Go c c.H0 t { nx := fun _ H' => Q .non H', rt := Q } (ds.map (Sl.val false) ++ List.replicate (N.length - ds.length) Sl.no))) :
    Cl P w K mg base (L2.CX P w) (k + 1) x (spY K PP R X) := by
  obtain ⟨f, fd, F, hm, b⟩ := D.ex
  refine ⟨f, fd, ps, F.okX S (fun vs H Q E h => ?_) (fun cdv A outer s H vs Q E hr h => ?_), hm, F.kp, b⟩
  · obtain ⟨ds, hd, ⟨hP, _⟩ | ⟨C, hX, _⟩⟩ := h
    · rw [hd.length]; exact hlen _ hP
    · rw [hd.length]; exact hlenX _ _ hX
  · obtain ⟨t, h1, h2, h3⟩ := hbody f cdv A outer s H E hr
    have hpl : ps.length ≤ N.length := by have := congrArg List.length S.pre; rw [List.length_take] at this; omega
    refine ⟨t, h1, ?_⟩
    obtain ⟨ds, hd, ⟨hP, kk⟩ | ⟨C, hX, kk⟩⟩ := h
    · exact h2 Q ⟨H, fun a => H a = none, fun _ h => h⟩ ds hP (fun r hR v H' e dd => kk r v H' hR e dd) _ _ H H (Evl.Ex.refl _) (enter_sim hd (by rw [hd.length, hlen _ hP]; exact hpl))
    · exact h3 Q ⟨H, fun a => H a = none, fun _ h => h⟩ ds C hX kk _ _ H H (Evl.Ex.refl _) (enter_sim hd (by rw [hd.length, hlenX _ _ hX]; exact hpl))
theorem cl_W {R : List PyData → PyData → Prop} {RL : List PyData → List PyData → Prop} {X : List PyData → Addr → Prop} (D : Dfn K mg x st ps) (S : FnScope N ps (defScope st)) (hlen : ∀ ds, PP ds → ds.length = ps.length) (hlenX : ∀ ds C, X ds C → ds.length = ps.length)
    (hbody : ∀ (f : Addr) (cdv : Value) (A : Around) (outer : List Env) (s : Shared) (H : Hp) (E : XK), Room k (A.deeper (envOfC x (defScope st) s.heap.objs.size f cdv)) →
      ∃ t, PSs (cxOf (L2.CX P w) P w K mg base N x (defScope st) f cdv A outer s H E) (defBody st) t ∧
        (∀ (Q : VK) (c : Cq K) ds, PP ds → (∀ a, c.NW a → c.H0 a = none) → (∀ r, R ds r → Rt c Q r) → (∀ r, RL ds r → RtL c Q r) → Go c c.H0 t { nx := fun _ H' => Q .non H', rt := Q } (ds.map (Sl.val false) ++ List.replicate (N.length - ds.length) Sl.no)) ∧
        (∀ (Q : VK) (c : Cq K) ds C, X ds C → (∀ H', Ex c.H0 H' → E (.ref C) none H') → Go c c.H0 t { nx := fun _ H' => Q .non H', rt := Q } (ds.map (Sl.val false) ++ List.replicate (N.length - ds.length) Sl.no))) :
    Cl P w K mg base (L2.CX P w) (k + 1) x (spW K PP R RL X) := by
  obtain ⟨f, fd, F, hm, b⟩ := D.ex
  refine ⟨f, fd, ps, F.okX S (fun vs H Q E h => ?_) (fun cdv A outer s H vs Q E hr h => ?_), hm, F.kp, b⟩
  · obtain ⟨ds, hd, ⟨hP, _⟩ | ⟨C, hX, _⟩⟩ := h
    · rw [hd.length]; exact hlen _ hP
    · rw [hd.length]; exact hlenX _ _ hX
  · obtain ⟨t, h1, h2, h3⟩ := hbody f cdv A outer s H E hr
    have hpl : ps.length ≤ N.length := by have := congrArg List.length S.pre; rw [List.length_take] at this; omega
    refine ⟨t, h1, ?_⟩
    obtain ⟨ds, hd, ⟨hP, kk, kl⟩ | ⟨C, hX, kk⟩⟩ := h
    · exact h2 Q ⟨H, fun a => H a = none, fun _ h => h⟩ ds hP (fun _ h => h) (fun r hR v H' e dd => kk r v H' hR e dd) (fun r hR p xs H' e hp at_ dd => kl r p xs H' hR e hp at_ dd) _ _ H H (Evl.Ex.refl _) (enter_sim hd (by rw [hd.length, hlen _ hP]; exact hpl))
    · exact h3 Q ⟨H, fun a => H a = none, fun _ h => h⟩ ds C hX kk _ _ H H (Evl.Ex.refl _) (enter_sim hd (by rw [hd.length, hlenX _ _ hX]; exact hpl))
/-- a def that is not called: nothing is promised -/
theorem cl_none (D : Dfn K mg x st ps) (S : FnScope N ps (defScope st)) : Cl P w K mg base CX0 (k + 1) x (fun _ _ _ _ => False) := by
  obtain ⟨f, fd, F, hm, b⟩ := D.ex
  exact ⟨f, fd, ps, F.ok S (fun vs H Q E h => h.elim) (fun cdv A outer s H vs Q E hr h => h.elim), hm, F.kp, b⟩
theorem cl_noneX (D : Dfn K mg x st ps) (S : FnScope N ps (defScope st)) : Cl P w K mg base (L2.CX P w) (k + 1) x (fun _ _ _ _ => False) := by
  obtain ⟨f, fd, F, hm, b⟩ := D.ex
  exact ⟨f, fd, ps, F.okX S (fun vs H Q E h => h.elim) (fun cdv A outer s H vs Q E hr h => h.elim), hm, F.kp, b⟩
end
/-! what is never come to -/
theorem pss_false {X : Cx} {l : List Stmt} : PSs X l (fun _ _ _ => False) := ⟨fun _ _ _ _ _ _ h => h.elim⟩
/-- a need that cannot be kept beside these -/
def BadP (m : Nat) (prs : List (Int × Int)) (p : Int × Int) : Prop := ∀ prs' : List (Int × Int), (∀ q ∈ prs, q ∈ prs') → p ∈ prs' → ¬ MQ.Dag m prs'
theorem bad_out {m : Nat} {prs : List (Int × Int)} {p : Int × Int} (h : p.1 < 0 ∨ p.1 ≥ (m : Int) ∨ p.2 < 0 ∨ p.2 ≥ (m : Int)) : BadP m prs p := fun prs' _ hp hd => by
  have := hd.inr p hp
  omega
theorem bad_self {m : Nat} {prs : List (Int × Int)} {a : Int} : BadP m prs (a, a) := fun prs' hs hp ⟨rk, hr⟩ => by
  have q2 := (hr (a, a) hp).2.2.2.2
  simp only at q2
  omega
/-- a leads to one -/
def Anc (prs : List (Int × Int)) (one a : Int) : Prop := ∀ rk : Int → Nat, (∀ p ∈ prs, rk p.1 < rk p.2) → rk a < rk one
theorem bad_anc {m : Nat} {prs : List (Int × Int)} {one a : Int} (h : Anc prs one a) : BadP m prs (one, a) := fun prs' hs hp ⟨rk, hr⟩ => by
  have q1 := h rk fun p hp => (hr p (hs p hp)).2.2.2.2
  have q2 := (hr (one, a) hp).2.2.2.2
  simp only at q2
  omega
theorem Anc.step {prs : List (Int × Int)} {one : Int} {rest : List Int} {p : Int × Int} (h : ∀ a ∈ rest, Anc prs one a) (hp : p ∈ prs) (hb : p.2 ∈ one :: rest) : Anc prs one p.1 := fun rk hr => by
  have q := hr p hp
  rcases List.mem_cons.mp hb with e | e
  · rw [e] at q; exact q
  · have := h _ e rk hr; omega
end DL

end
section
set_option maxRecDepth 100000
set_option maxHeartbeats 2000000
/-! moments: earliest begins, lengths of ways -/
namespace MM
open DL
def gz (bs : List Int) (k : Int) : Int := bs.getD k.toNat 0
theorem gz_at {bs : List Int} {k : Int} (h0 : 0 ≤ k) (h1 : k < (bs.length : Int)) : bs[k.toNat]? = some (gz bs k) := by
  unfold gz
  have : k.toNat < bs.length := by omega
  simp [this]
theorem gz_atI {bs : List Int} {k : Int} (h0 : 0 ≤ k) (h1 : k < (bs.length : Int)) : L2.atI (bs.map PySem.PyData.int) k = some (.int (gz bs k)) := atI_mapS (atI_natI h0 (gz_at h0 h1))
theorem gz_of {bs : List Int} {k : Int} {x : Int} (h : bs[k.toNat]? = some x) : gz bs k = x := by
  unfold gz; simp [h]
theorem gz_mem {bs : List Int} {k : Int} (h0 : 0 ≤ k) (h1 : k < (bs.length : Int)) : gz bs k ∈ bs := List.mem_of_getElem? (gz_at h0 h1)
theorem gz_set {bs : List Int} {k j : Int} {x : Int} (h0 : 0 ≤ k) (h1 : k < (bs.length : Int)) (j0 : 0 ≤ j) : gz (bs.set k.toNat x) j = if j = k then x else gz bs j := by
  unfold gz
  rw [List.getD_eq_getElem?_getD, List.getD_eq_getElem?_getD, List.getElem?_set]
  by_cases e : j = k
  · subst e
    rw [if_pos rfl, if_pos (by omega), if_pos rfl]; rfl
  · rw [if_neg (by omega), if_neg e]
theorem gz_nonneg {bs : List Int} (h : ∀ b ∈ bs, 0 ≤ b) (k : Int) : 0 ≤ gz bs k := by
  unfold gz
  rw [List.getD_eq_getElem?_getD]
  cases e : bs[k.toNat]? with
  | none => exact Int.le_refl 0
  | some z => exact h z (List.mem_of_getElem? e)
section
variable {hs bs : List Int} {prs : List (Int × Int)} {w : Int}
/-- b is the earliest begin of w, by the begins of the works that it needs -/
structure EarlyAt (hs bs : List Int) (prs : List (Int × Int)) (w : Int) : Prop where
  ge : ∀ p ∈ prs, p.2 = w → gz bs p.1 + gz hs p.1 ≤ gz bs w
  is : (∃ p ∈ prs, p.2 = w ∧ gz bs w = gz bs p.1 + gz hs p.1) ∨ (gz bs w = 0 ∧ ∀ p ∈ prs, p.2 ≠ w)
structure Early (hs : List Int) (prs : List (Int × Int)) (bs : List Int) : Prop where
  len : bs.length = hs.length
  at_ : ∀ w, 0 ≤ w → w < (hs.length : Int) → EarlyAt hs bs prs w
/-- the sum of the hours of a way -/
def waySum (hs : List Int) (ws : List Int) : Int := (ws.map (gz hs)).sum
/-- the length: the greatest sum of a way, 0 of no works -/
structure IsLen (hs : List Int) (prs : List (Int × Int)) (x : Int) : Prop where
  ge : ∀ ws, MQ.IsWay hs.length prs ws → waySum hs ws ≤ x
  is : (∃ ws, MQ.IsWay hs.length prs ws ∧ waySum hs ws = x) ∨ (hs = [] ∧ x = 0)
theorem no_way {prs : List (Int × Int)} {ws : List Int} : ¬ MQ.IsWay (([] : List Int).length) prs ws := fun ⟨h1, _, h3⟩ => by
  have := h1 0 ws[0] (List.getElem?_eq_getElem h3)
  simp at this
  omega
theorem IsLen.uniq {x y : Int} (h : IsLen hs prs x) (g : IsLen hs prs y) : x = y := by
  rcases h.is with ⟨ws, w1, e1⟩ | ⟨e1, e2⟩
  · rcases g.is with ⟨vs, w2, f1⟩ | ⟨f1, f2⟩
    · have := h.ge _ w2
      have := g.ge _ w1
      omega
    · subst f1; exact (no_way w1).elim
  · rcases g.is with ⟨vs, w2, f1⟩ | ⟨f1, f2⟩
    · subst e1; exact (no_way w2).elim
    · rw [e2, f2]
/-! ways -/
theorem way_one {m : Int} {a : Int} (h0 : 0 ≤ a) (h1 : a < m) : MQ.IsWay m prs [a] := ⟨fun k x h => by
  cases k with
  | zero => simp at h; subst h; exact ⟨h0, h1⟩
  | succ n => simp at h, fun k x y h h' => by
  cases k with
  | zero => simp at h'
  | succ n => simp at h, by simp⟩
theorem way_snoc {m : Int} {ws : List Int} {a b : Int} (w : MQ.IsWay m prs ws) (hl : ws.getLast? = some a) (hp : (a, b) ∈ prs) (h0 : 0 ≤ b) (h1 : b < m) : MQ.IsWay m prs (ws ++ [b]) := by
  have hg : ws[ws.length - 1]? = some a := by rw [← List.getLast?_eq_getElem?]; exact hl
  refine ⟨fun k x h => ?_, fun k x y h h' => ?_, by simp⟩
  · rcases Nat.lt_or_ge k ws.length with l | l
    · rw [List.getElem?_append_left l] at h
      exact w.1 k x h
    · rw [List.getElem?_append_right l] at h
      cases e : k - ws.length with
      | zero => rw [e] at h; simp at h; subst h; exact ⟨h0, h1⟩
      | succ n => rw [e] at h; simp at h
  · rcases Nat.lt_or_ge (k + 1) ws.length with l | l
    · rw [List.getElem?_append_left l] at h'
      rw [List.getElem?_append_left (by omega)] at h
      exact w.2.1 k x y h h'
    · rw [List.getElem?_append_right l] at h'
      cases e : k + 1 - ws.length with
      | zero =>
        rw [e] at h'
        simp at h'
        subst h'
        have e2 : k = ws.length - 1 := by have := w.2.2; omega
        rw [List.getElem?_append_left (by have := w.2.2; omega), e2, hg] at h
        cases h
        exact hp
      | succ n => rw [e] at h'; simp at h'
theorem waySum_snoc {ws : List Int} {b : Int} : waySum hs (ws ++ [b]) = waySum hs ws + gz hs b := by
  unfold waySum; rw [List.map_append, List.sum_append]; simp
/-- a way is its last work alone, or a way with one work more -/
theorem way_cases {m : Int} {ws : List Int} (w : MQ.IsWay m prs ws) : ∃ b, ws.getLast? = some b ∧ 0 ≤ b ∧ b < m ∧ (ws = [b] ∨ ∃ vs a, ws = vs ++ [b] ∧ MQ.IsWay m prs vs ∧ vs.getLast? = some a ∧ (a, b) ∈ prs) := by
  rcases List.eq_nil_or_concat ws with e | ⟨vs, b, e⟩
  · have := w.2.2; rw [e] at this; simp at this
  · rw [List.concat_eq_append] at e
    subst e
    have hb : (vs ++ [b])[vs.length]? = some b := by rw [List.getElem?_append_right (Nat.le_refl _)]; simp
    obtain ⟨b0, b1⟩ := w.1 _ _ hb
    refine ⟨b, by simp, b0, b1, ?_⟩
    rcases List.eq_nil_or_concat vs with e | ⟨us, a, e⟩
    · left; rw [e]; rfl
    · right
      rw [List.concat_eq_append] at e
      subst e
      have ha : (us ++ [a] ++ [b])[us.length]? = some a := by
        rw [List.getElem?_append_left (by simp), List.getElem?_append_right (Nat.le_refl _)]; simp
      refine ⟨_, a, rfl, ⟨fun k x h => w.1 k x (by rw [List.getElem?_append_left (List.getElem?_eq_some_iff.mp h).1]; exact h), fun k x y h h' => w.2.1 k x y (by rw [List.getElem?_append_left (List.getElem?_eq_some_iff.mp h).1]; exact h) (by rw [List.getElem?_append_left (List.getElem?_eq_some_iff.mp h').1]; exact h'), by simp⟩, by simp, w.2.1 us.length a b ha (by simpa using hb)⟩
/-- a potential bounds all ways -/
theorem way_pot {m : Int} (π h : Int → Int) (h0 : ∀ w, 0 ≤ w → w < m → 0 ≤ π w) (hp : ∀ p ∈ prs, π p.1 + h p.1 ≤ π p.2) : ∀ (n : Nat) (ws : List Int) (b : Int), ws.length ≤ n → MQ.IsWay m prs ws → ws.getLast? = some b → (ws.map h).sum ≤ π b + h b
  | 0, ws, b, hn, w, hl => by have := w.2.2; omega
  | n + 1, ws, b, hn, w, hl => by
    obtain ⟨b', e1, b0, b1, e | ⟨vs, a, e, wv, la, pa⟩⟩ := way_cases w
    · rw [hl] at e1; cases e1
      rw [e]; simp
      have := h0 b b0 b1
      omega
    · rw [hl] at e1; cases e1
      have ih := way_pot π h h0 hp n vs a (by rw [e, List.length_append] at hn; simp at hn; omega) wv la
      have := hp _ pa
      rw [e, List.map_append, List.sum_append]
      simp at this ⊢
      omega
theorem Early.way_le (h : Early hs prs bs) (hn : ∀ x ∈ hs, 0 ≤ x) (hr : ∀ p ∈ prs, 0 ≤ p.2 ∧ p.2 < (hs.length : Int)) (hb : ∀ w, 0 ≤ w → w < (hs.length : Int) → 0 ≤ gz bs w) {ws : List Int} {b : Int} (w : MQ.IsWay hs.length prs ws) (hl : ws.getLast? = some b) : waySum hs ws ≤ gz bs b + gz hs b :=
  way_pot (gz bs) (gz hs) hb (fun p hp => (h.at_ p.2 (hr p hp).1 (hr p hp).2).ge p hp rfl) ws.length ws b (Nat.le_refl _) w hl
/-- each work ends a way that is done when the work is -/
theorem Early.way_is (h : Early hs prs bs) (hd : MQ.Dag hs.length prs) {w : Int} (h0 : 0 ≤ w) (h1 : w < (hs.length : Int)) : ∃ ws, MQ.IsWay hs.length prs ws ∧ ws.getLast? = some w ∧ waySum hs ws = gz bs w + gz hs w := by
  obtain ⟨rk, hr⟩ := hd
  have key : ∀ (n : Nat) (w : Int), rk w ≤ n → 0 ≤ w → w < (hs.length : Int) → ∃ ws, MQ.IsWay hs.length prs ws ∧ ws.getLast? = some w ∧ waySum hs ws = gz bs w + gz hs w := by
    intro n
    induction n with
    | zero =>
      intro w hw h0 h1
      rcases (h.at_ w h0 h1).is with ⟨p, hp, e, _⟩ | ⟨e, no⟩
      · have := (hr p hp).2.2.2.2; rw [e] at this; omega
      · exact ⟨[w], way_one h0 h1, rfl, by rw [e]; simp [waySum]⟩
    | succ n ih =>
      intro w hw h0 h1
      rcases (h.at_ w h0 h1).is with ⟨p, hp, e, e2⟩ | ⟨e, no⟩
      · have q := hr p hp
        rw [e] at q
        obtain ⟨ws, ww, wl, we⟩ := ih p.1 (by omega) q.1 q.2.1
        refine ⟨ws ++ [w], way_snoc ww wl (by rw [← e]; exact hp) h0 h1, by simp, ?_⟩
        rw [waySum_snoc, we, e2]
      · exact ⟨[w], way_one h0 h1, rfl, by rw [e]; simp [waySum]⟩
  exact key (rk w) w (Nat.le_refl _) h0 h1
theorem Early.nonneg (h : Early hs prs bs) (hd : MQ.Dag hs.length prs) (hn : ∀ x ∈ hs, 0 ≤ x) {w : Int} (h0 : 0 ≤ w) (h1 : w < (hs.length : Int)) : 0 ≤ gz bs w := by
  obtain ⟨rk, hr⟩ := hd
  have key : ∀ (n : Nat) (w : Int), rk w ≤ n → 0 ≤ w → w < (hs.length : Int) → 0 ≤ gz bs w := by
    intro n
    induction n with
    | zero =>
      intro w hw h0 h1
      rcases (h.at_ w h0 h1).is with ⟨p, hp, e, _⟩ | ⟨e, no⟩
      · have := (hr p hp).2.2.2.2; rw [e] at this; omega
      · omega
    | succ n ih =>
      intro w hw h0 h1
      rcases (h.at_ w h0 h1).is with ⟨p, hp, e, e2⟩ | ⟨e, no⟩
      · have q := hr p hp
        rw [e] at q
        have := ih p.1 (by omega) q.1 q.2.1
        have := gz_nonneg hn p.1
        omega
      · omega
  exact key (rk w) w (Nat.le_refl _) h0 h1
/-- the length by the earliest begins -/
theorem Early.isLen (h : Early hs prs bs) (hd : MQ.Dag hs.length prs) (hn : ∀ x ∈ hs, 0 ≤ x) {x : Int} (hx0 : hs = [] → x = 0)
    (hx1 : hs ≠ [] → (∃ w, 0 ≤ w ∧ w < (hs.length : Int) ∧ gz bs w + gz hs w = x) ∧ ∀ w, 0 ≤ w → w < (hs.length : Int) → gz bs w + gz hs w ≤ x) : IsLen hs prs x := by
  refine ⟨fun ws w => ?_, ?_⟩
  · have ne : hs ≠ [] := fun e => by subst e; exact no_way w
    obtain ⟨b, e1, b0, b1, _⟩ := way_cases w
    have := h.way_le hn (fun p hp => ⟨(hd.inr p hp).2.2.1, (hd.inr p hp).2.2.2⟩) (fun w h0 h1 => h.nonneg hd hn h0 h1) w e1
    have := (hx1 ne).2 b b0 b1
    omega
  · by_cases e : hs = []
    · exact .inr ⟨e, hx0 e⟩
    · obtain ⟨⟨w, w0, w1, we⟩, _⟩ := hx1 e
      obtain ⟨ws, q1, _, q2⟩ := h.way_is hd w0 w1
      exact .inl ⟨ws, q1, by rw [q2, we]⟩
theorem IsLen.nonneg (h : IsLen hs prs x) (hn : ∀ x ∈ hs, 0 ≤ x) : 0 ≤ x := by
  rcases h.is with ⟨ws, w, e⟩ | ⟨_, e⟩
  · rw [← e]
    unfold waySum
    clear e w
    induction ws with
    | nil => simp
    | cons a r ih => rw [List.map_cons, List.sum_cons]; have := gz_nonneg hn a; omega
  · omega
/-! by the order -/
structure EarlyTo (hs : List Int) (prs : List (Int × Int)) (bs : List Int) (done : List Int) : Prop where
  len : bs.length = hs.length
  at_ : ∀ w ∈ done, EarlyAt hs bs prs w
  need : ∀ w ∈ done, ∀ p ∈ prs, p.2 = w → p.1 ∈ done
  bd : ∀ w ∈ done, 0 ≤ w ∧ w < (hs.length : Int)
/-- what max with default tells -/
structure MaxD (xs : List Int) (j v : Int) : Prop where
  e : xs = [] → v = j
  n : xs ≠ [] → v ∈ xs ∧ ∀ y ∈ xs, y ≤ v
structure MinD (xs : List Int) (j v : Int) : Prop where
  e : xs = [] → v = j
  n : xs ≠ [] → v ∈ xs ∧ ∀ y ∈ xs, v ≤ y
theorem max_ex : ∀ (xs : List Int) (j : Int), ∃ v, MaxD xs j v
  | [], j => ⟨j, fun _ => rfl, fun h => absurd rfl h⟩
  | [a], j => ⟨a, fun h => by simp at h, fun _ => by simp⟩
  | a :: b :: r, j => by
    obtain ⟨v, h⟩ := max_ex (b :: r) j
    obtain ⟨h1, h2⟩ := h.n (by simp)
    by_cases q : a ≤ v
    · exact ⟨v, fun h => by simp at h, fun _ => ⟨List.mem_cons_of_mem _ h1, fun y hy => by
        rcases List.mem_cons.mp hy with e | e
        · rw [e]; exact q
        · exact h2 y e⟩⟩
    · exact ⟨a, fun h => by simp at h, fun _ => ⟨List.mem_cons_self, fun y hy => by
        rcases List.mem_cons.mp hy with e | e
        · omega
        · have := h2 y e; omega⟩⟩
theorem min_ex : ∀ (xs : List Int) (j : Int), ∃ v, MinD xs j v
  | [], j => ⟨j, fun _ => rfl, fun h => absurd rfl h⟩
  | [a], j => ⟨a, fun h => by simp at h, fun _ => by simp⟩
  | a :: b :: r, j => by
    obtain ⟨v, h⟩ := min_ex (b :: r) j
    obtain ⟨h1, h2⟩ := h.n (by simp)
    by_cases q : v ≤ a
    · exact ⟨v, fun h => by simp at h, fun _ => ⟨List.mem_cons_of_mem _ h1, fun y hy => by
        rcases List.mem_cons.mp hy with e | e
        · rw [e]; exact q
        · exact h2 y e⟩⟩
    · exact ⟨a, fun h => by simp at h, fun _ => ⟨List.mem_cons_self, fun y hy => by
        rcases List.mem_cons.mp hy with e | e
        · omega
        · have := h2 y e; omega⟩⟩
theorem EarlyTo.nil : EarlyTo hs prs (List.replicate hs.length 0) [] := ⟨by simp, fun w h => (List.not_mem_nil h).elim, fun w h => (List.not_mem_nil h).elim, fun w h => (List.not_mem_nil h).elim⟩
/-- the done moments of the works that w needs -/
def before (hs bs : List Int) (prs : List (Int × Int)) (w : Int) : List Int := (prs.filter fun p => decide (p.2 = w)).map fun p => gz bs p.1 + gz hs p.1
theorem mem_before {y : Int} : y ∈ before hs bs prs w ↔ ∃ p ∈ prs, p.2 = w ∧ y = gz bs p.1 + gz hs p.1 := by
  unfold before
  rw [List.mem_map]
  constructor
  · rintro ⟨p, hp, e⟩
    rw [List.mem_filter] at hp
    exact ⟨p, hp.1, of_decide_eq_true hp.2, e.symm⟩
  · rintro ⟨p, hp, e, e2⟩
    exact ⟨p, List.mem_filter.mpr ⟨hp, decide_eq_true e⟩, e2.symm⟩
/-- x may be done behind these -/
structure Next (m : Nat) (prs : List (Int × Int)) (done : List Int) (x : Int) : Prop where
  lo : 0 ≤ x
  hi : x < (m : Int)
  new : x ∉ done
  ready : ∀ p ∈ prs, p.2 = x → p.1 ∈ done
theorem EarlyTo.next {done : List Int} {x v : Int} (h : EarlyTo hs prs bs done) (s : Next hs.length prs done x) (hv : MaxD (before hs bs prs x) 0 v) : EarlyTo hs prs (bs.set x.toNat v) (done ++ [x]) := by
  have xl : x < (bs.length : Int) := by rw [h.len]; exact s.hi
  have old : ∀ w ∈ done, gz (bs.set x.toNat v) w = gz bs w := fun w hw => by
    rw [gz_set s.lo xl (h.bd w hw).1, if_neg (fun e => s.new (by rw [← e]; exact hw))]
  have new : gz (bs.set x.toNat v) x = v := by rw [gz_set s.lo xl s.lo, if_pos rfl]
  refine ⟨by rw [List.length_set]; exact h.len, fun w hw => ?_, fun w hw p hp e => ?_, fun w hw => ?_⟩
  · rcases List.mem_append.mp hw with hw | hw
    · have a := h.at_ w hw
      refine ⟨fun p hp e => ?_, ?_⟩
      · rw [old w hw, old p.1 (h.need w hw p hp e)]; exact a.ge p hp e
      · rcases a.is with ⟨p, hp, e, e2⟩ | ⟨e, no⟩
        · exact .inl ⟨p, hp, e, by rw [old w hw, old p.1 (h.need w hw p hp e)]; exact e2⟩
        · exact .inr ⟨by rw [old w hw]; exact e, no⟩
    · rw [List.mem_singleton] at hw
      subst hw
      have oldp : ∀ p ∈ prs, p.2 = w → gz (bs.set w.toNat v) p.1 = gz bs p.1 := fun p hp e => old p.1 (s.ready p hp e)
      refine ⟨fun p hp e => ?_, ?_⟩
      · rw [new, oldp p hp e]
        have m := (mem_before (hs := hs) (bs := bs)).mpr ⟨p, hp, e, rfl⟩
        exact (hv.n (List.ne_nil_of_mem m)).2 _ m
      · by_cases z : before hs bs prs w = []
        · right
          refine ⟨by rw [new]; exact hv.e z, fun p hp e => ?_⟩
          have m := (mem_before (hs := hs) (bs := bs)).mpr ⟨p, hp, e, rfl⟩
          rw [z] at m
          exact List.not_mem_nil m
        · obtain ⟨p, hp, e, e2⟩ := mem_before.mp (hv.n z).1
          exact .inl ⟨p, hp, e, by rw [new, oldp p hp e]; exact e2⟩
  · rcases List.mem_append.mp hw with hw | hw
    · exact List.mem_append_left _ (h.need w hw p hp e)
    · rw [List.mem_singleton] at hw
      subst hw
      exact List.mem_append_left _ (s.ready p hp e)
  · rcases List.mem_append.mp hw with hw | hw
    · exact h.bd w hw
    · rw [List.mem_singleton] at hw
      subst hw
      exact ⟨s.lo, s.hi⟩
theorem EarlyTo.step {done : List Int} {x v : Int} (h : EarlyTo hs prs bs done) (s : MQ.Step hs.length prs done x) (hi : MQ.InR hs.length prs) (hv : MaxD (before hs bs prs x) 0 v) : EarlyTo hs prs (bs.set x.toNat v) (done ++ [x]) := EarlyTo.next h ⟨s.lo, s.hi, s.new, s.ready⟩ hv
theorem ord_all {m : Nat} {os : List Int} (h : MQ.IsOrd m prs os) {w : Int} (h0 : 0 ≤ w) (h1 : w < (m : Int)) : w ∈ os := by
  have l := MQ.left_len h.ord
  rw [h.len] at l
  have e : MQ.leftOf m os = [] := List.length_eq_zero_iff.mp (by omega)
  exact Classical.byContradiction fun n => by
    have := MQ.mem_left.mpr ⟨h0, h1, n⟩
    rw [e] at this
    exact List.not_mem_nil this
theorem EarlyTo.early {os : List Int} (h : EarlyTo hs prs bs os) (ho : MQ.IsOrd hs.length prs os) : Early hs prs bs := ⟨h.len, fun w h0 h1 => h.at_ w (ord_all ho h0 h1)⟩
theorem dag_early (hd : MQ.Dag hs.length prs) : ∃ bs, Early hs prs bs := by
  obtain ⟨os, ho⟩ := hd.isOrd
  have key : ∀ i, i ≤ os.length → ∃ bs, EarlyTo hs prs bs (os.take i) := by
    intro i
    induction i with
    | zero => exact fun _ => ⟨_, by rw [List.take_zero]; exact EarlyTo.nil⟩
    | succ i ih =>
      intro hi
      obtain ⟨bs, h⟩ := ih (by omega)
      have e : os[i]? = some os[i] := List.getElem?_eq_getElem (by omega)
      obtain ⟨v, hv⟩ := max_ex (before hs bs prs os[i]) 0
      exact ⟨_, by rw [List.take_add_one, e]; exact h.step (ho.ord i _ e) hd.inr hv⟩
  obtain ⟨bs, h⟩ := key os.length (Nat.le_refl _)
  rw [List.take_length] at h
  exact ⟨bs, h.early ho⟩
theorem dag_len (hd : MQ.Dag hs.length prs) (hn : ∀ x ∈ hs, 0 ≤ x) : ∃ x, IsLen hs prs x := by
  obtain ⟨bs, h⟩ := dag_early hd
  obtain ⟨v, hv⟩ := max_ex ((List.range hs.length).map fun i : Nat => gz bs (i : Int) + gz hs (i : Int)) 0
  refine ⟨v, h.isLen hd hn (fun z => hv.e (by rw [z]; rfl)) fun z => ?_⟩
  have hl : 0 < hs.length := List.length_pos_iff.mpr z
  have q := hv.n (List.ne_nil_of_mem (List.mem_map.mpr ⟨0, List.mem_range.mpr hl, rfl⟩))
  refine ⟨?_, fun w w0 w1 => ?_⟩
  · obtain ⟨i, hi, e⟩ := List.mem_map.mp q.1
    have := List.mem_range.mp hi
    exact ⟨(i : Int), by omega, by omega, e⟩
  · exact q.2 _ (List.mem_map.mpr ⟨w.toNat, List.mem_range.mpr (by omega), by rw [show ((w.toNat : Nat) : Int) = w by omega]⟩)
/-- the last work of a longest way is done at the length -/
theorem Early.last (h : Early hs prs bs) (hd : MQ.Dag hs.length prs) (hn : ∀ x ∈ hs, 0 ≤ x) {x : Int} (hx : IsLen hs prs x) (ne : hs ≠ []) : ∃ w, 0 ≤ w ∧ w < (hs.length : Int) ∧ gz bs w + gz hs w = x := by
  rcases hx.is with ⟨ws, w, e⟩ | ⟨e, _⟩
  · obtain ⟨b, e1, b0, b1, _⟩ := way_cases w
    have q1 := h.way_le hn (fun p hp => ⟨(hd.inr p hp).2.2.1, (hd.inr p hp).2.2.2⟩) (fun w h0 h1 => h.nonneg hd hn h0 h1) w e1
    obtain ⟨vs, v1, _, v2⟩ := h.way_is hd b0 b1
    have := hx.ge vs v1
    exact ⟨b, b0, b1, by omega⟩
  · exact absurd e ne
theorem way_cons {m : Int} {ws : List Int} {a b : Int} (w : MQ.IsWay m prs ws) (hh : ws.head? = some b) (hp : (a, b) ∈ prs) (h0 : 0 ≤ a) (h1 : a < m) : MQ.IsWay m prs (a :: ws) := by
  refine ⟨fun k x h => ?_, fun k x y h h' => ?_, by simp⟩
  · cases k with
    | zero => simp at h; subst h; exact ⟨h0, h1⟩
    | succ k => exact w.1 k x (by simpa using h)
  · cases k with
    | zero =>
      simp at h h'
      subst h
      rw [List.head?_eq_getElem?, h'] at hh
      cases hh
      exact hp
    | succ k => exact w.2.1 k x y (by simpa using h) (by simpa using h')
/-- a longest way, of no works the list of none -/
def Longest (hs : List Int) (prs : List (Int × Int)) (x : Int) (ws : List Int) : Prop := (hs = [] ∧ ws = []) ∨ (MQ.IsWay hs.length prs ws ∧ waySum hs ws = x)
/-- what is found of it, from its end -/
structure Tail (hs bs : List Int) (prs : List (Int × Int)) (x : Int) (way : List Int) (here : Int) : Prop where
  last : way.getLast? = some here
  isw : MQ.IsWay hs.length prs way.reverse
  sum : waySum hs way.reverse + gz bs here = x
theorem Tail.step {x a here : Int} {way : List Int} (h : Tail hs bs prs x way here) (hp : (a, here) ∈ prs) (hi : MQ.InR hs.length prs) (e : gz bs a + gz hs a = gz bs here) : Tail hs bs prs x (way ++ [a]) a := ⟨by simp, by
  rw [List.reverse_append]
  show MQ.IsWay _ _ (a :: way.reverse)
  exact way_cons h.isw (by rw [List.head?_reverse]; exact h.last) hp (hi _ hp).1 (hi _ hp).2.1, by
  have := h.sum
  rw [List.reverse_append]
  show waySum hs (a :: way.reverse) + _ = _
  unfold waySum at this ⊢
  rw [List.map_cons, List.sum_cons]
  omega⟩
theorem gz_ext {as bs : List Int} (hl : as.length = bs.length) (h : ∀ w, 0 ≤ w → w < (as.length : Int) → gz as w = gz bs w) : as = bs := by
  refine List.ext_getElem? fun i => ?_
  rcases Nat.lt_or_ge i as.length with l | l
  · have q := h (i : Int) (by omega) (by omega)
    have a := gz_at (bs := as) (k := (i : Int)) (by omega) (by omega)
    have b := gz_at (bs := bs) (k := (i : Int)) (by omega) (by omega)
    rw [Int.toNat_natCast] at a b
    rw [a, b, q]
  · rw [List.getElem?_eq_none l, List.getElem?_eq_none (by omega)]
theorem Early.uniq {as : List Int} (h : Early hs prs bs) (g : Early hs prs as) (hd : MQ.Dag hs.length prs) : bs = as := by
  obtain ⟨rk, hr⟩ := hd
  have key : ∀ (n : Nat) (w : Int), rk w ≤ n → 0 ≤ w → w < (hs.length : Int) → gz bs w = gz as w := by
    intro n
    induction n with
    | zero =>
      intro w hw h0 h1
      have no : ∀ p ∈ prs, p.2 ≠ w := fun p hp e => by have := (hr p hp).2.2.2.2; rw [e] at this; omega
      rcases (h.at_ w h0 h1).is with ⟨p, hp, e, _⟩ | ⟨e, _⟩
      · exact absurd e (no p hp)
      · rcases (g.at_ w h0 h1).is with ⟨p, hp, e', _⟩ | ⟨e', _⟩
        · exact absurd e' (no p hp)
        · rw [e, e']
    | succ n ih =>
      intro w hw h0 h1
      have same : ∀ p ∈ prs, p.2 = w → gz bs p.1 = gz as p.1 := fun p hp e => by
        have q := hr p hp
        rw [e] at q
        exact ih p.1 (by omega) q.1 q.2.1
      rcases (h.at_ w h0 h1).is with ⟨p, hp, e, e2⟩ | ⟨e, no⟩
      · have q1 := (g.at_ w h0 h1).ge p hp e
        rw [← same p hp e, ← e2] at q1
        rcases (g.at_ w h0 h1).is with ⟨q, hq, f, f2⟩ | ⟨f, no⟩
        · have q2 := (h.at_ w h0 h1).ge q hq f
          rw [same q hq f, ← f2] at q2
          omega
        · exact absurd e (no p hp)
      · rcases (g.at_ w h0 h1).is with ⟨q, hq, f, f2⟩ | ⟨f, _⟩
        · exact absurd f (no q hq)
        · rw [e, f]
  exact gz_ext (by rw [h.len, g.len]) fun w w0 w1 => key (rk w) w (Nat.le_refl _) w0 (by rw [← h.len]; exact w1)
/-! latest begins -/
structure LateAt (hs bs : List Int) (prs : List (Int × Int)) (e w : Int) : Prop where
  le : ∀ p ∈ prs, p.1 = w → gz bs w + gz hs w ≤ gz bs p.2
  is : (∃ p ∈ prs, p.1 = w ∧ gz bs w + gz hs w = gz bs p.2) ∨ (gz bs w + gz hs w = e ∧ ∀ p ∈ prs, p.1 ≠ w)
structure Late (hs : List Int) (prs : List (Int × Int)) (e : Int) (bs : List Int) : Prop where
  len : bs.length = hs.length
  at_ : ∀ w, 0 ≤ w → w < (hs.length : Int) → LateAt hs bs prs e w
structure LateTo (hs : List Int) (prs : List (Int × Int)) (e : Int) (bs : List Int) (done : List Int) : Prop where
  len : bs.length = hs.length
  at_ : ∀ w ∈ done, LateAt hs bs prs e w
  need : ∀ w ∈ done, ∀ p ∈ prs, p.1 = w → p.2 ∈ done
  bd : ∀ w ∈ done, 0 ≤ w ∧ w < (hs.length : Int)
theorem LateTo.nil {e : Int} : LateTo hs prs e (List.replicate hs.length 0) [] := ⟨by simp, fun w h => (List.not_mem_nil h).elim, fun w h => (List.not_mem_nil h).elim, fun w h => (List.not_mem_nil h).elim⟩
/-- the begins of the works that need w -/
def behind (bs : List Int) (prs : List (Int × Int)) (w : Int) : List Int := (prs.filter fun p => decide (p.1 = w)).map fun p => gz bs p.2
theorem mem_behind {y : Int} : y ∈ behind bs prs w ↔ ∃ p ∈ prs, p.1 = w ∧ y = gz bs p.2 := by
  unfold behind
  rw [List.mem_map]
  constructor
  · rintro ⟨p, hp, e⟩
    rw [List.mem_filter] at hp
    exact ⟨p, hp.1, of_decide_eq_true hp.2, e.symm⟩
  · rintro ⟨p, hp, e, e2⟩
    exact ⟨p, List.mem_filter.mpr ⟨hp, decide_eq_true e⟩, e2.symm⟩
theorem LateTo.next {done : List Int} {x v e : Int} (h : LateTo hs prs e bs done) (lo : 0 ≤ x) (hi : x < (hs.length : Int)) (nw : x ∉ done) (ready : ∀ p ∈ prs, p.1 = x → p.2 ∈ done) (hv : MinD (behind bs prs x) e v) : LateTo hs prs e (bs.set x.toNat (v - gz hs x)) (x :: done) := by
  have xl : x < (bs.length : Int) := by rw [h.len]; exact hi
  have old : ∀ w ∈ done, gz (bs.set x.toNat (v - gz hs x)) w = gz bs w := fun w hw => by
    rw [gz_set lo xl (h.bd w hw).1, if_neg (fun e => nw (by rw [← e]; exact hw))]
  have new : gz (bs.set x.toNat (v - gz hs x)) x = v - gz hs x := by rw [gz_set lo xl lo, if_pos rfl]
  refine ⟨by rw [List.length_set]; exact h.len, fun w hw => ?_, fun w hw p hp e => ?_, fun w hw => ?_⟩
  · rcases List.mem_cons.mp hw with hw | hw
    · subst hw
      have oldp : ∀ p ∈ prs, p.1 = w → gz (bs.set w.toNat (v - gz hs w)) p.2 = gz bs p.2 := fun p hp e => old p.2 (ready p hp e)
      refine ⟨fun p hp e => ?_, ?_⟩
      · rw [new, oldp p hp e]
        have m := (mem_behind (bs := bs)).mpr ⟨p, hp, e, rfl⟩
        have := (hv.n (List.ne_nil_of_mem m)).2 _ m
        omega
      · by_cases z : behind bs prs w = []
        · right
          refine ⟨by rw [new]; have := hv.e z; omega, fun p hp e => ?_⟩
          have m := (mem_behind (bs := bs)).mpr ⟨p, hp, e, rfl⟩
          rw [z] at m
          exact List.not_mem_nil m
        · obtain ⟨p, hp, e, e2⟩ := mem_behind.mp (hv.n z).1
          exact .inl ⟨p, hp, e, by rw [new, oldp p hp e]; omega⟩
    · have a := h.at_ w hw
      refine ⟨fun p hp e => ?_, ?_⟩
      · rw [old w hw, old p.2 (h.need w hw p hp e)]; exact a.le p hp e
      · rcases a.is with ⟨p, hp, e, e2⟩ | ⟨e, no⟩
        · exact .inl ⟨p, hp, e, by rw [old w hw, old p.2 (h.need w hw p hp e)]; exact e2⟩
        · exact .inr ⟨by rw [old w hw]; exact e, no⟩
  · rcases List.mem_cons.mp hw with hw | hw
    · subst hw
      exact List.mem_cons_of_mem _ (ready p hp e)
    · exact List.mem_cons_of_mem _ (h.need w hw p hp e)
  · rcases List.mem_cons.mp hw with hw | hw
    · subst hw
      exact ⟨lo, hi⟩
    · exact h.bd w hw
/-- from the last of an order on -/
theorem ord_ready {m : Nat} {os : List Int} (h : MQ.IsOrd m prs os) (hd : MQ.Dag m prs) {k : Nat} {x : Int} (hx : os[k]? = some x) : 0 ≤ x ∧ x < (m : Int) ∧ x ∉ os.drop (k + 1) ∧ ∀ p ∈ prs, p.1 = x → p.2 ∈ os.drop (k + 1) := by
  have s := h.ord k x hx
  have nd := h.ord.nodup
  refine ⟨s.lo, s.hi, fun hm => ?_, fun p hp e => ?_⟩
  · obtain ⟨j, hj⟩ := List.getElem?_of_mem hm
    rw [List.getElem?_drop] at hj
    have a := MQ.idxOf_get nd hx
    have b := MQ.idxOf_get nd hj
    omega
  · have q := hd.inr p hp
    have mem := ord_all h q.2.2.1 q.2.2.2
    obtain ⟨j, hj⟩ := List.getElem?_of_mem mem
    have s2 := h.ord j p.2 hj
    have r := s2.ready p hp rfl
    rw [e] at r
    obtain ⟨i, hi⟩ := List.getElem?_of_mem r
    rw [List.getElem?_take] at hi
    split at hi
    · have a := MQ.idxOf_get nd hx
      have b := MQ.idxOf_get nd hi
      have : k < j := by omega
      exact List.mem_of_getElem? (i := j - (k + 1)) (by rw [List.getElem?_drop, show k + 1 + (j - (k + 1)) = j by omega]; exact hj)
    · cases hi
theorem Late.le_end {e : Int} (h : Late hs prs e bs) (hd : MQ.Dag hs.length prs) (hn : ∀ x ∈ hs, 0 ≤ x) {w : Int} (h0 : 0 ≤ w) (h1 : w < (hs.length : Int)) : gz bs w + gz hs w ≤ e := by
  obtain ⟨os, ho⟩ := hd.isOrd
  have key : ∀ (n k : Nat) (w : Int), hs.length ≤ k + n → os[k]? = some w → gz bs w + gz hs w ≤ e := by
    intro n
    induction n with
    | zero =>
      intro k w hk hw
      have := (List.getElem?_eq_some_iff.mp hw).1
      rw [ho.len] at this
      omega
    | succ n ih =>
      intro k w hk hw
      obtain ⟨w0, w1, _, rd⟩ := ord_ready ho hd hw
      rcases (h.at_ w w0 w1).is with ⟨p, hp, e1, e2⟩ | ⟨e1, _⟩
      · obtain ⟨j, hj⟩ := List.getElem?_of_mem (rd p hp e1)
        rw [List.getElem?_drop] at hj
        have := ih _ p.2 (by omega) hj
        have := gz_nonneg hn p.2
        omega
      · omega
  obtain ⟨k, hk⟩ := List.getElem?_of_mem (ord_all ho h0 h1)
  exact key hs.length k w (by omega) hk
theorem Late.ge_early {as : List Int} {x e : Int} (h : Late hs prs e bs) (g : Early hs prs as) (hd : MQ.Dag hs.length prs) (hx : IsLen hs prs x) (hle : x ≤ e) {w : Int} (h0 : 0 ≤ w) (h1 : w < (hs.length : Int)) : gz as w ≤ gz bs w := by
  obtain ⟨os, ho⟩ := hd.isOrd
  have key : ∀ (n k : Nat) (w : Int), hs.length ≤ k + n → os[k]? = some w → gz as w ≤ gz bs w := by
    intro n
    induction n with
    | zero =>
      intro k w hk hw
      have := (List.getElem?_eq_some_iff.mp hw).1
      rw [ho.len] at this
      omega
    | succ n ih =>
      intro k w hk hw
      obtain ⟨w0, w1, _, rd⟩ := ord_ready ho hd hw
      rcases (h.at_ w w0 w1).is with ⟨p, hp, e1, e2⟩ | ⟨e1, _⟩
      · obtain ⟨j, hj⟩ := List.getElem?_of_mem (rd p hp e1)
        rw [List.getElem?_drop] at hj
        have q1 := ih _ p.2 (by omega) hj
        have q := hd.inr p hp
        have q2 := (g.at_ p.2 q.2.2.1 q.2.2.2).ge p hp rfl
        rw [e1] at q2
        omega
      · obtain ⟨ws, ww, _, we⟩ := g.way_is hd w0 w1
        have := hx.ge ws ww
        omega
  obtain ⟨k, hk⟩ := List.getElem?_of_mem (ord_all ho h0 h1)
  exact key hs.length k w (by omega) hk
theorem Late.uniq {as : List Int} {e : Int} (h : Late hs prs e bs) (g : Late hs prs e as) (hd : MQ.Dag hs.length prs) : bs = as := by
  obtain ⟨os, ho⟩ := hd.isOrd
  have key : ∀ (n k : Nat) (w : Int), hs.length ≤ k + n → os[k]? = some w → gz bs w = gz as w := by
    intro n
    induction n with
    | zero =>
      intro k w hk hw
      have := (List.getElem?_eq_some_iff.mp hw).1
      rw [ho.len] at this
      omega
    | succ n ih =>
      intro k w hk hw
      obtain ⟨w0, w1, _, rd⟩ := ord_ready ho hd hw
      have same : ∀ p ∈ prs, p.1 = w → gz bs p.2 = gz as p.2 := fun p hp e1 => by
        obtain ⟨j, hj⟩ := List.getElem?_of_mem (rd p hp e1)
        rw [List.getElem?_drop] at hj
        exact ih _ p.2 (by omega) hj
      rcases (h.at_ w w0 w1).is with ⟨p, hp, e1, e2⟩ | ⟨e1, no⟩
      · have q1 := (g.at_ w w0 w1).le p hp e1
        rw [← same p hp e1] at q1
        rcases (g.at_ w w0 w1).is with ⟨q, hq, f, f2⟩ | ⟨f, no⟩
        · have q2 := (h.at_ w w0 w1).le q hq f
          rw [same q hq f] at q2
          omega
        · exact absurd e1 (no p hp)
      · rcases (g.at_ w w0 w1).is with ⟨q, hq, f, f2⟩ | ⟨f, _⟩
        · exact absurd f (no q hq)
        · omega
  refine gz_ext (by rw [h.len, g.len]) fun w w0 w1 => ?_
  rw [h.len] at w1
  obtain ⟨k, hk⟩ := List.getElem?_of_mem (ord_all ho w0 w1)
  exact key hs.length k w (by omega) hk
/-! rounds over the needs -/
structure BF (hs : List Int) (prs : List (Int × Int)) (r : Nat) (bs : List Int) : Prop where
  len : bs.length = hs.length
  nn : ∀ w, 0 ≤ gz bs w
  up : ∀ w, 0 ≤ w → w < (hs.length : Int) → ∃ ws, MQ.IsWay hs.length prs ws ∧ ws.getLast? = some w ∧ waySum hs ws = gz bs w + gz hs w
  lo : ∀ ws b, MQ.IsWay hs.length prs ws → ws.getLast? = some b → ws.length ≤ r + 1 → waySum hs ws ≤ gz bs b + gz hs b
def BFto (hs : List Int) (prs : List (Int × Int)) (r : Nat) (bs : List Int) (j : Nat) : Prop := ∀ ws, ∀ p ∈ prs.take j, MQ.IsWay hs.length prs ws → ws.getLast? = some p.1 → ws.length ≤ r + 1 → waySum hs ws ≤ gz bs p.2
theorem gz_rep (n : Nat) (w : Int) : gz (List.replicate n 0) w = 0 := by
  unfold gz
  rw [List.getD_eq_getElem?_getD, List.getElem?_replicate]
  split <;> rfl
theorem BF.zero (hn : ∀ x ∈ hs, 0 ≤ x) : BF hs prs 0 (List.replicate hs.length 0) := ⟨by simp, fun w => by rw [gz_rep]; exact Int.le_refl 0, fun w h0 h1 => ⟨[w], way_one h0 h1, rfl, by rw [gz_rep]; simp [waySum]⟩, fun ws b w hl hle => by
  obtain ⟨b', e1, b0, b1, e | ⟨vs, a, e, wv, la, pa⟩⟩ := way_cases w
  · rw [hl] at e1; cases e1
    rw [e, gz_rep]; simp [waySum]
  · have := wv.2.2
    rw [e, List.length_append, List.length_singleton] at hle
    omega⟩
theorem BFto.zero {r : Nat} : BFto hs prs r bs 0 := fun ws p hp => by rw [List.take_zero] at hp; exact (List.not_mem_nil hp).elim
theorem BF.turn {r j : Nat} {p : Int × Int} (h : BF hs prs r bs) (g : BFto hs prs r bs j) (hp : prs[j]? = some p) (hd : MQ.Dag hs.length prs) :
    BF hs prs r (bs.set p.2.toNat (max (gz bs p.2) (gz bs p.1 + gz hs p.1))) ∧ BFto hs prs r (bs.set p.2.toNat (max (gz bs p.2) (gz bs p.1 + gz hs p.1))) (j + 1) := by
  have pm := List.mem_of_getElem? hp
  obtain ⟨p0, p1, p2, p3⟩ := hd.inr p pm
  have l2 : p.2 < (bs.length : Int) := by rw [h.len]; exact p3
  generalize hv : max (gz bs p.2) (gz bs p.1 + gz hs p.1) = v
  have v1 : gz bs p.2 ≤ v := by omega
  have v2 : gz bs p.1 + gz hs p.1 ≤ v := by omega
  have eq : ∀ w, 0 ≤ w → gz (bs.set p.2.toNat v) w = if w = p.2 then v else gz bs w := fun w w0 => gz_set p2 l2 w0
  have mono : ∀ w, 0 ≤ w → gz bs w ≤ gz (bs.set p.2.toNat v) w := fun w w0 => by
    rw [eq w w0]
    split
    · rename_i e; rw [e]; exact v1
    · exact Int.le_refl _
  refine ⟨⟨by rw [List.length_set]; exact h.len, fun w => ?_, fun w w0 w1 => ?_, fun ws b w hl hle => ?_⟩, fun ws q hq w hl hle => ?_⟩
  · have q0 := h.nn p.2
    unfold gz at q0 ⊢
    rw [List.getD_eq_getElem?_getD, List.getElem?_set]
    split
    · split
      · simp; unfold gz at v1; omega
      · simp
    · have := h.nn w; unfold gz at this; rw [List.getD_eq_getElem?_getD] at this; exact this
  · rw [eq w w0]
    split
    · rename_i e
      subst e
      by_cases q : v = gz bs p.2
      · rw [q]; exact h.up p.2 w0 w1
      · have q2 : v = gz bs p.1 + gz hs p.1 := by omega
        obtain ⟨ws, ww, wl, we⟩ := h.up p.1 p0 p1
        exact ⟨ws ++ [p.2], way_snoc ww wl pm w0 w1, by simp, by rw [waySum_snoc, we, q2]⟩
    · exact h.up w w0 w1
  · have q1 := h.lo ws b w hl hle
    obtain ⟨b', e1, b0, b1, _⟩ := way_cases w
    rw [hl] at e1; cases e1
    have := mono b b0
    omega
  · rw [List.take_add_one, hp] at hq
    rcases List.mem_append.mp hq with hq | hq
    · have q1 := g ws q hq w hl hle
      have := mono q.2 (hd.inr q (List.mem_of_mem_take hq)).2.2.1
      omega
    · simp at hq
      subst hq
      rw [eq q.2 p2, if_pos rfl]
      have := h.lo ws q.1 w hl hle
      omega
theorem BF.next {r : Nat} (h : BF hs prs r bs) (g : BFto hs prs r bs prs.length) : BF hs prs (r + 1) bs := ⟨h.len, h.nn, h.up, fun ws b w hl hle => by
  obtain ⟨b', e1, b0, b1, e | ⟨vs, a, e, wv, la, pa⟩⟩ := way_cases w
  · rw [hl] at e1; cases e1
    exact h.lo ws b w hl (by rw [e]; simp)
  · rw [hl] at e1; cases e1
    rw [e, List.length_append] at hle
    simp at hle
    have := g vs (a, b) (by rw [List.take_length]; exact pa) wv la hle
    rw [e, waySum_snoc]
    simp at this
    omega⟩
theorem way_len (hd : MQ.Dag hs.length prs) {ws : List Int} (w : MQ.IsWay hs.length prs ws) : ws.length ≤ hs.length := by
  have q := MQ.len_sub (l2 := (List.range hs.length).map fun i : Nat => (i : Int)) (way_nodup hd w) fun x hx => by
    obtain ⟨k, hk⟩ := List.getElem?_of_mem hx
    have := w.1 k x hk
    exact List.mem_map.mpr ⟨x.toNat, List.mem_range.mpr (by omega), by omega⟩
  simpa using q
theorem BF.isLen (h : BF hs prs hs.length bs) (hd : MQ.Dag hs.length prs) (hn : ∀ x ∈ hs, 0 ≤ x) {v : Int} (h1 : v ∈ (List.range hs.length).map (fun i : Nat => gz bs (i : Int) + gz hs (i : Int)) ++ [0]) (h2 : ∀ y ∈ (List.range hs.length).map (fun i : Nat => gz bs (i : Int) + gz hs (i : Int)) ++ [0], y ≤ v) : IsLen hs prs v := by
  have le : ∀ w, 0 ≤ w → w < (hs.length : Int) → gz bs w + gz hs w ≤ v := fun w w0 w1 => h2 _ (List.mem_append_left _ (List.mem_map.mpr ⟨w.toNat, List.mem_range.mpr (by omega), by rw [show ((w.toNat : Nat) : Int) = w by omega]⟩))
  refine ⟨fun ws w => ?_, ?_⟩
  · obtain ⟨b, e1, b0, b1, _⟩ := way_cases w
    have := h.lo ws b w e1 (by have := way_len hd w; omega)
    have := le b b0 b1
    omega
  · by_cases z : hs = []
    · right
      subst z
      simp at h1
      exact ⟨rfl, h1⟩
    · left
      have hl : 0 < hs.length := List.length_pos_iff.mpr z
      rcases List.mem_append.mp h1 with h1 | h1
      · obtain ⟨i, hi, e⟩ := List.mem_map.mp h1
        have := List.mem_range.mp hi
        obtain ⟨ws, w, _, ew⟩ := h.up (i : Int) (by omega) (by omega)
        exact ⟨ws, w, by rw [ew, e]⟩
      · rw [List.mem_singleton] at h1
        have q1 := le 0 (by omega) (by omega)
        have q2 := h.nn 0
        have q3 := gz_nonneg hn 0
        obtain ⟨ws, w, _, ew⟩ := h.up 0 (by omega) (by omega)
        exact ⟨ws, w, by omega⟩
end
end MM
namespace DL
open PySem
def hrsL (works : List (Int × Int × Int)) : List Int := works.map fun w => w.2.1
def hrsF (works : List (Int × Int × Int)) : List Int := works.map fun w => if w.2.2 = 0 then w.2.1 else w.1
theorem hrsL_len (works : List (Int × Int × Int)) : (hrsL works).length = works.length := by unfold hrsL; rw [List.length_map]
theorem hrsF_len (works : List (Int × Int × Int)) : (hrsF works).length = works.length := by unfold hrsF; rw [List.length_map]
theorem hrsL_nn {works : List (Int × Int × Int)} (h : ∀ w ∈ works, 0 ≤ w.2.1 ∧ w.2.1 ≤ w.1) : ∀ x ∈ hrsL works, 0 ≤ x := fun x hx => by
  obtain ⟨w, hw, rfl⟩ := List.mem_map.mp hx
  have := h w hw
  omega
theorem hrsF_nn {works : List (Int × Int × Int)} (h : ∀ w ∈ works, 0 ≤ w.2.1 ∧ w.2.1 ≤ w.1) : ∀ x ∈ hrsF works, 0 ≤ x := fun x hx => by
  obtain ⟨w, hw, rfl⟩ := List.mem_map.mp hx
  have := h w hw
  split <;> omega
theorem inj_ip {a a' : List Int} {b b' : List (Int × Int)} (h : [iL a, pL b] = [iL a', pL b']) : a = a' ∧ b = b' := by
  simp only [List.cons.injEq, and_true] at h
  exact ⟨iL_inj.mp h.1, pL_inj.mp h.2⟩
theorem inj_wp {a a' : List (Int × Int × Int)} {b b' : List (Int × Int)} (h : [wL a, pL b] = [wL a', pL b']) : a = a' ∧ b = b' := by
  simp only [List.cons.injEq, and_true] at h
  exact ⟨wL_inj.mp h.1, pL_inj.mp h.2⟩
end DL

end
section
set_option maxRecDepth 100000
set_option maxHeartbeats 2000000
/-! slots that own more than a list: dicts with int keys; tuples of ints compared -/
namespace DL
open PySem L2
section
variable {K : PySem.W.Frag} {c : Cq K} {O : Addr → Prop} {ρ ρ' : Rho} {σ : St} {F H F' H' : Hp} {b b' : Bool} {d : PyData} {ds : List PyData}
/-- what a slot owns is changed, nothing else -/
theorem Sim.writeS (S : Sim c O ρ σ F H) {i : Nat} {s s' : Sl} {o : Option V} (h : ρ[i]? = some s) (ho : σ[i]? = some o) (hO : ∀ a, s'.Owns o a → s.Owns o a) (hH : ∀ a, ¬ s.Owns o a → H' a = H a) (hn : ∀ a, H a ≠ none → H' a ≠ none) (x : SlOk c F H' s' o) :
    Sim c O (ρ.set i s') σ F H' := by
  have so := S.sl i s o h ho
  refine ⟨S.base, fun a u e => ?_, fun a hx => ⟨(S.prot a hx).1, hn a (S.prot a hx).2⟩, by rw [List.length_set]; exact S.len, fun k t p h3 h4 => ?_, fun k l t t' u v y h3 h4 h5 h6 h7 h8 => ?_⟩
  · rw [hH a fun z => by have := (so.owned z).1; rw [e] at this; cases this]
    exact S.ff a u e
  · rw [List.getElem?_set] at h3
    split at h3
    · split at h3
      · cases h3
        rename_i q _
        subst q
        rw [ho] at h4
        cases h4
        exact x
      · cases h3
    · rename_i nik
      have y := S.sl k t p h3 h4
      refine y.move (Evl.Ex.refl _) fun a' ha => ⟨(y.owned ha).1, hH a' fun z => nik (S.apart i k _ _ _ _ a' h h3 ho h4 z ha)⟩
  · have g : ∀ (k : Nat) (t : Sl) (u : Option V), (ρ.set i s')[k]? = some t → σ[k]? = some u → t.Owns u y → ∃ t', ρ[k]? = some t' ∧ t'.Owns u y := fun k t u q1 q3 q2 => by
      rw [List.getElem?_set] at q1
      split at q1
      · split at q1
        · cases q1
          rename_i q _
          subst q
          rw [ho] at q3
          cases q3
          exact ⟨_, h, hO _ q2⟩
        · cases q1
      · exact ⟨t, q1, q2⟩
    obtain ⟨s1, e1, e2⟩ := g k t u h3 h5 h7
    obtain ⟨t1, e3, e4⟩ := g l t' v h4 h6 h8
    exact S.apart k l s1 t1 u v y e1 e3 h5 h6 e2 e4
/-- what a slot owns becomes known data -/
theorem Sim.freezeS (S : Sim c O ρ σ F H) {i : Nat} {s s' : Sl} {o : Option V} (h : ρ[i]? = some s) (ho : σ[i]? = some o) (ef : Ex F F') (ff : Ex F' H) (hO : ∀ a, s'.Owns o a → s.Owns o a) (hF : ∀ a, F a = none → ¬ s.Owns o a → F' a = none) (x : SlOk c F' H s' o) :
    Sim c (fun _ => False) (ρ.set i s') σ F' H := by
  refine ⟨S.base.trans ef, ff, fun _ h => h.elim, by rw [List.length_set]; exact S.len, fun k t p h3 h4 => ?_, fun k l t t' u v y h3 h4 h5 h6 h7 h8 => ?_⟩
  · rw [List.getElem?_set] at h3
    split at h3
    · split at h3
      · cases h3
        rename_i q _
        subst q
        rw [ho] at h4
        cases h4
        exact x
      · cases h3
    · rename_i nik
      have y := S.sl k t p h3 h4
      exact y.move ef fun a' ha => ⟨hF a' (y.owned ha).1 fun z => nik (S.apart i k _ _ _ _ a' h h3 ho h4 z ha), rfl⟩
  · have g : ∀ (k : Nat) (t : Sl) (u : Option V), (ρ.set i s')[k]? = some t → σ[k]? = some u → t.Owns u y → ∃ t', ρ[k]? = some t' ∧ t'.Owns u y := fun k t u q1 q3 q2 => by
      rw [List.getElem?_set] at q1
      split at q1
      · split at q1
        · cases q1
          rename_i q _
          subst q
          rw [ho] at q3
          cases q3
          exact ⟨_, h, hO _ q2⟩
        · cases q1
      · exact ⟨t, q1, q2⟩
    obtain ⟨s1, e1, e2⟩ := g k t u h3 h5 h7
    obtain ⟨t1, e3, e4⟩ := g l t' v h4 h6 h8
    exact S.apart k l s1 t1 u v y e1 e3 h5 h6 e2 e4
end
/-! ### dicts with int keys -/
def dval {α : Type} (kd : List (Int × α)) (k : Int) : Option α := (kd.find? fun p => decide (p.1 = k)).map (·.2)
def dput {α : Type} (kd : List (Int × α)) (k : Int) (x : α) : List (Int × α) := if (kd.any fun p => decide (p.1 = k)) = true then kd.map (fun p => if p.1 = k then (p.1, x) else p) else kd ++ [(k, x)]
def dicD (kd : List (Int × PyData)) : PyData := .dict (kd.map fun p => (.int p.1, p.2))
theorem dval_map {α β : Type} (f : α → β) (kd : List (Int × α)) (k : Int) : dval (kd.map fun p => (p.1, f p.2)) k = (dval kd k).map f := by
  unfold dval
  rw [List.find?_map]
  show ((kd.find? fun p => decide (p.1 = k)).map fun p => (p.1, f p.2)).map (·.2) = _
  cases kd.find? fun p => decide (p.1 = k) <;> rfl
theorem dput_map {α β : Type} (f : α → β) (kd : List (Int × α)) (k : Int) (x : α) : dput (kd.map fun p => (p.1, f p.2)) k (f x) = (dput kd k x).map fun p => (p.1, f p.2) := by
  unfold dput
  have e : ((kd.map fun p => (p.1, f p.2)).any fun p => decide (p.1 = k)) = kd.any fun p => decide (p.1 = k) := by rw [List.any_map]; rfl
  rw [e]
  split
  · rw [List.map_map, List.map_map]
    refine List.map_congr_left fun p _ => ?_
    show (if p.1 = k then (p.1, f x) else (p.1, f p.2)) = ((fun p : Int × α => (p.1, f p.2)) (if p.1 = k then (p.1, x) else p))
    split <;> rfl
  · rw [List.map_append]; rfl
theorem dval_cons {α : Type} {p : Int × α} {kd : List (Int × α)} {k : Int} : dval (p :: kd) k = if p.1 = k then some p.2 else dval kd k := by
  unfold dval
  rw [List.find?_cons]
  by_cases e : p.1 = k
  · rw [decide_eq_true e, if_pos e]; rfl
  · rw [decide_eq_false e, if_neg e]
theorem dval_any {α : Type} {k : Int} : ∀ {kd : List (Int × α)}, (kd.any fun p => decide (p.1 = k)) = (dval kd k).isSome
  | [] => rfl
  | p :: r => by
    rw [List.any_cons, dval_cons, dval_any (kd := r)]
    by_cases e : p.1 = k
    · rw [if_pos e, decide_eq_true e]; rfl
    · rw [if_neg e, decide_eq_false e, Bool.false_or]
theorem dval_put {α : Type} (kd : List (Int × α)) (k j : Int) (x : α) : dval (dput kd k x) j = if j = k then some x else dval kd j := by
  unfold dput
  split
  · rename_i h
    have g : ∀ kd : List (Int × α), (dval kd k).isSome = true ∨ j ≠ k → dval (kd.map (fun p => if p.1 = k then (p.1, x) else p)) j = if j = k then some x else dval kd j := by
      intro kd
      induction kd with
      | nil =>
        intro h
        rcases h with h | h
        · cases h
        · rw [if_neg h]; rfl
      | cons p r ih =>
        intro h
        rw [List.map_cons, dval_cons, dval_cons]
        by_cases e : p.1 = k
        · rw [if_pos e]
          by_cases e2 : p.1 = j
          · rw [if_pos e2, if_pos (e2.symm.trans e)]
          · have nk : j ≠ k := fun z => e2 (e.trans z.symm)
            rw [if_neg e2, if_neg e2, if_neg nk, ih (.inr nk), if_neg nk]
        · rw [if_neg e]
          by_cases e2 : p.1 = j
          · have nk : j ≠ k := fun z => e (e2.trans z)
            rw [if_pos e2, if_pos e2, if_neg nk]
          · rw [if_neg e2, if_neg e2]
            refine ih (h.imp (fun h => ?_) id)
            rw [dval_cons, if_neg e] at h
            exact h
    exact g kd (.inl (by rw [← dval_any]; exact h))
  · rename_i h
    have hn : dval kd k = none := by
      cases q : dval kd k with
      | none => rfl
      | some y => exact absurd (by rw [dval_any, q]; rfl) h
    have g : ∀ kd : List (Int × α), dval kd k = none → dval (kd ++ [(k, x)]) j = if j = k then some x else dval kd j := by
      intro kd
      induction kd with
      | nil =>
        intro _
        rw [List.nil_append, dval_cons]
        by_cases e : k = j
        · rw [if_pos e, if_pos e.symm]
        · rw [if_neg e, if_neg fun z => e z.symm]
      | cons p r ih =>
        intro h
        rw [dval_cons] at h
        split at h
        · cases h
        · rename_i e
          rw [List.cons_append, dval_cons, dval_cons, ih h]
          by_cases e2 : p.1 = j
          · rw [if_pos e2, if_pos e2, if_neg fun z => e (e2.trans z)]
          · rw [if_neg e2, if_neg e2]
    exact g kd hn
theorem dput_len {α : Type} (kd : List (Int × α)) (k : Int) (x : α) : (dput kd k x).length = if (dval kd k).isSome = true then kd.length else kd.length + 1 := by
  unfold dput
  rw [dval_any]
  split
  · rw [List.length_map]
  · rw [List.length_append]; rfl
section
variable {m : Mode} {H : Hp} {kvs : List (Key × V)} {kd : List (Int × PyData)} {k : Int}
theorem DcAll.cons_inv {p : Int × PyData} (h : DcAll m H kvs (p :: kd)) : ∃ v r, kvs = (Sum.inl p.1, v) :: r ∧ Dd m H v p.2 ∧ DcAll m H r kd := by
  obtain ⟨h1, h2⟩ := h
  cases kvs with
  | nil => cases h1
  | cons q r =>
    rw [List.map_cons, List.map_cons] at h1 h2
    cases h2 with
    | cons d dr =>
      injection h1 with e1 e2
      exact ⟨q.2, r, by rw [← e1], d, e2, dr⟩
theorem DcAll.nil_inv (h : DcAll m H kvs []) : kvs = [] := by
  obtain ⟨h1, h2⟩ := h
  cases kvs with
  | nil => rfl
  | cons q r => cases h1
theorem DcAll.len (h : DcAll m H kvs kd) : kvs.length = kd.length := by
  have := congrArg List.length h.1
  simpa using this
theorem DcAll.val : ∀ {kd : List (Int × PyData)} {kvs : List (Key × V)}, DcAll m H kvs kd → (∀ d, dval kd k = some d → ∃ v, valV kvs (Sum.inl k : Key) = some v ∧ Dd m H v d) ∧ (dval kd k = none → valV kvs (Sum.inl k : Key) = none)
  | [], kvs, h => by
    rw [h.nil_inv]
    exact ⟨fun d e => (by cases e), fun _ => rfl⟩
  | p :: kd, kvs, h => by
    obtain ⟨v, r, rfl, d, dr⟩ := h.cons_inv
    obtain ⟨i1, i2⟩ := DcAll.val dr
    by_cases e : p.1 = k
    · have q : valV ((Sum.inl p.1, v) :: r) (Sum.inl k : Key) = some v := valV_pos (p := ((Sum.inl p.1 : Key), v)) (show (Sum.inl p.1 : Key) = Sum.inl k by rw [e])
      refine ⟨fun d' hd => ?_, fun hn => ?_⟩
      · rw [dval_cons, if_pos e] at hd
        cases hd
        exact ⟨v, q, d⟩
      · rw [dval_cons, if_pos e] at hn; cases hn
    · have q : valV ((Sum.inl p.1, v) :: r) (Sum.inl k : Key) = valV r (Sum.inl k : Key) := valV_neg (p := ((Sum.inl p.1 : Key), v)) fun z => e (Sum.inl.inj z)
      rw [q, dval_cons, if_neg e]
      exact ⟨i1, i2⟩
theorem DcAll.isS (h : DcAll m H kvs kd) : (valV kvs (Sum.inl k : Key)).isSome = (dval kd k).isSome := by
  obtain ⟨i1, i2⟩ := h.val (k := k)
  cases e : dval kd k with
  | none => rw [i2 e]; rfl
  | some d =>
    obtain ⟨v, e2, _⟩ := i1 d e
    rw [e2]; rfl
theorem DcAll.put {v : V} {d : PyData} (h : DcAll m H kvs kd) (hd : Dd m H v d) : DcAll m H (putK kvs (Sum.inl k : Key) v) (dput kd k d) := by
  unfold putK dput
  rw [valV_any, h.isS, ← dval_any]
  split
  · have g : ∀ {kd : List (Int × PyData)} {kvs : List (Key × V)}, DcAll m H kvs kd → DcAll m H (kvs.map fun kv => if kv.1 = (Sum.inl k : Key) then (kv.1, v) else kv) (kd.map fun p => if p.1 = k then (p.1, d) else p) := by
      intro kd
      induction kd with
      | nil => intro kvs h; rw [h.nil_inv]; exact ⟨rfl, .nil⟩
      | cons p r ih =>
        intro kvs h
        obtain ⟨v', r', rfl, d', dr⟩ := h.cons_inv
        obtain ⟨i1, i2⟩ := ih dr
        rw [List.map_cons, List.map_cons]
        by_cases e : p.1 = k
        · rw [if_pos e, if_pos (show ((Sum.inl p.1 : Key), v').1 = Sum.inl k by rw [← e])]
          exact ⟨by rw [List.map_cons, List.map_cons, i1], by rw [List.map_cons, List.map_cons]; exact .cons hd i2⟩
        · rw [if_neg e, if_neg (show ¬ ((Sum.inl p.1 : Key), v').1 = Sum.inl k from fun z => e (Sum.inl.inj z))]
          exact ⟨by rw [List.map_cons, List.map_cons, i1], by rw [List.map_cons, List.map_cons]; exact .cons d' i2⟩
    exact g h
  · obtain ⟨h1, h2⟩ := h
    exact ⟨by rw [List.map_append, List.map_append, h1]; rfl, by rw [List.map_append, List.map_append]; exact h2.append (.one hd)⟩
theorem DcAll.mono {m' : Mode} {H' : Hp} (h : DcAll m H kvs kd) (g : ∀ {vs : List V} {ds : List PyData}, DdAll m H vs ds → DdAll m' H' vs ds) : DcAll m' H' kvs kd := ⟨h.1, g h.2⟩
theorem dic_zip (kd : List (Int × PyData)) : (kd.map fun p => (PyData.int p.1, p.2)) = ((kd.map (·.1)).map PyData.int).zip (kd.map (·.2)) := by
  induction kd with
  | nil => rfl
  | cons p r ih => simp [ih]
theorem Dd.ofDic {a : Addr} (p : m.P a) (r : Rd H a (.dK kvs)) (h : DcAll m H kvs kd) : Dd m H (.ref a) (dicD kd) :=
  .dic (ks := kd.map (·.1)) (ds := kd.map (·.2)) p r (by rw [h.1, List.map_map]; rfl) (dic_zip kd) (by simp) h.2
theorem zip_inj {ks : List Int} {ds : List PyData} : ∀ {kd : List (Int × PyData)} {ks : List Int} {ds : List PyData}, (kd.map fun p => (PyData.int p.1, p.2)) = (ks.map PyData.int).zip ds → ks.length = ds.length → kd.map (·.1) = ks ∧ kd.map (·.2) = ds
  | [], ks, ds, h, e => by
    cases ks with
    | nil => cases ds with
      | nil => exact ⟨rfl, rfl⟩
      | cons _ _ => cases e
    | cons _ _ => cases ds with
      | nil => cases e
      | cons _ _ => cases h
  | p :: r, ks, ds, h, e => by
    cases ks with
    | nil => cases h
    | cons k ks => cases ds with
      | nil => cases e
      | cons d ds =>
        rw [List.map_cons, List.map_cons, List.zip_cons_cons] at h
        injection h with h1 h2
        injection h1 with h3 h4
        injection h3 with h3
        obtain ⟨i1, i2⟩ := zip_inj (ks := ks) (ds := ds) h2 (by simpa using e)
        subst h3; subst h4
        exact ⟨by rw [List.map_cons, i1], by rw [List.map_cons, i2]⟩
theorem Dd.toDic {v : V} (h : Dd m H v (dicD kd)) : ∃ a kvs, v = .ref a ∧ m.P a ∧ Rd H a (.dK kvs) ∧ DcAll m H kvs kd := by
  unfold dicD at h
  generalize e : (kd.map fun p => (PyData.int p.1, p.2)) = l at h
  cases h with
  | dic p r e1 e2 e3 q =>
    rw [e2] at e
    obtain ⟨i1, i2⟩ := zip_inj (ks := []) (ds := []) e e3
    refine ⟨_, _, rfl, p, r, ?_, by rw [i2]; exact q⟩
    rw [e1, ← i1, List.map_map]
    rfl
  | ins p r e2 q =>
    rw [e2] at e
    cases kd with
    | nil => cases e
    | cons x y => rw [List.map_cons] at e; injection e with e _; injection e with e _; cases e
  | dis p r e1 e2 e3 q =>
    rename_i a kvs ks ds
    rw [e2] at e
    cases kd with
    | nil =>
      cases ks with
      | nil => cases ds with
        | nil => exact ⟨_, _, rfl, p, r, e1, q⟩
        | cons _ _ => cases e3
      | cons _ _ => cases ds with
        | nil => cases e3
        | cons _ _ => cases e
    | cons x y =>
      cases ks with
      | nil => cases e
      | cons _ _ => cases ds with
        | nil => cases e3
        | cons _ _ => rw [List.map_cons, List.map_cons, List.zip_cons_cons] at e; injection e with e _; injection e with e _; cases e
end
section
variable {K : PySem.W.Frag} {c : Cq K} {B : Hp} {b b' : Bool} {ρ ρ' : Rho} {D : Ends} {tz : TS} {te td ty tv ta tb : TE} {d : PyData} {ds : List PyData} {kd : List (Int × PyData)} {i j n : Nat} {k0 : Int}
/-- a dict: an own one, or one that stands still -/
def EvDi {K : PySem.W.Frag} (c : Cq K) (b : Bool) (te : TE) (ρ : Rho) (kd : List (Int × PyData)) : Prop := ∀ (O : Addr → Prop) (σ : St) (F H : Hp), Sim c O ρ σ F H → ∀ Q : VK,
  (∀ a kvs F' H', Ex F F' → Ex H H' → Sim c O ρ σ F' H' → Rd H' a (.dK kvs) → DcAll (c.pw b) F' kvs kd → Q (.ref a) H') → te σ H Q
theorem ed_own {k : Nat} (h : ρ[k]? = some (.dic b kd)) : EvDi c b (tVar k) ρ kd := fun O σ F H S Q q => by
  obtain ⟨o, ho, a, kvs, e, f0, h1, dd⟩ := S.get h
  exact ⟨_, by rw [ho, e], q a kvs F H (Evl.Ex.refl _) (Evl.Ex.refl _) S (.inl h1) dd⟩
theorem ed_val (h : Ev c b te ρ (dicD kd)) : EvDi c b te ρ kd := fun O σ F H S Q q => h O σ F H S Q fun v F' H' e1 e2 S' dd => by
  obtain ⟨a, kvs, rfl, pa, r, x⟩ := dd.toDic
  exact q a kvs F' H' e1 e2 S' (rd_ex S'.ff r) x
/-- d[k] -/
theorem ev_dget (h : EvDi c b td ρ kd) (hk : EvR c ty ρ (.int k0)) (e : dval kd k0 = some d) : Ev c b (tDGet td ty) ρ d := fun O σ F H S Q q =>
  h O σ F H S _ fun a kvs F1 H1 e1 g1 S1 r1 dd => hk O σ F1 H1 S1 _ fun w F2 H2 e2 g2 S2 d2 => by
    cases d2
    obtain ⟨v, ev, dv⟩ := (dd.val (k := k0)).1 d e
    exact ⟨a, v, rfl, .inl ⟨kvs, Sum.inl k0, rd_ex g2 r1, rfl, ev.symm⟩, q v F2 H2 (e1.trans e2) (g1.trans g2) S2 (dv.ex e2)⟩
/-- k in d -/
theorem ev_din {x : Bool} (hk : EvR c ty ρ (.int k0)) (h : EvDi c b' td ρ kd) (e : (dval kd k0).isSome = x) : Ev c b (tDIn ty td) ρ (.bool x) := fun O σ F H S Q q =>
  hk O σ F H S _ fun w F1 H1 e1 g1 S1 d1 => h O σ F1 H1 S1 _ fun a kvs F2 H2 e2 g2 S2 r2 dd => by
    cases d1
    refine ⟨a, _, rfl, .inl ⟨kvs, Sum.inl k0, r2, rfl, rfl⟩, ?_⟩
    rw [dd.isS, e]
    exact q _ F2 H2 (e1.trans e2) (g1.trans g2) S2 (.bl _)
theorem ev_dnotin {x : Bool} (hk : EvR c ty ρ (.int k0)) (h : EvDi c b' td ρ kd) (e : (dval kd k0).isSome = x) : Ev c b (tDNotIn ty td) ρ (.bool (!x)) := fun O σ F H S Q q =>
  hk O σ F H S _ fun w F1 H1 e1 g1 S1 d1 => h O σ F1 H1 S1 _ fun a kvs F2 H2 e2 g2 S2 r2 dd => by
    cases d1
    refine ⟨a, _, rfl, .inl ⟨kvs, Sum.inl k0, r2, rfl, rfl⟩, ?_⟩
    rw [dd.isS, e]
    exact q _ F2 H2 (e1.trans e2) (g1.trans g2) S2 (.bl _)
/-- d[k] = e -/
theorem go_dput (h : ρ[i]? = some (.dic b kd)) (hv : Ev c b tv ρ d) (hk : EvR c ty ρ (.int k0)) (hz : kd.length < 100000) (k : Nx c B D (ρ.set i (.dic b (dput kd k0 d)))) : Go c B (sDPut (tVar i) ty tv) D ρ := fun O σ F H e S =>
  hv O σ F H S _ fun v F1 H1 e1 g1 S1 d1 => by
    obtain ⟨o, ho, a, kvs, eo, f0, h1, dd⟩ := S1.get h
    subst eo
    refine ⟨_, ho, hk O σ F1 H1 S1 _ fun w F2 H2 e2 g2 S2 d2 => ?_⟩
    cases d2
    have h2 := g2 _ _ h1
    have f2 : F2 a = none := by
      obtain ⟨o2, ho2, a2, kvs2, eo2, f2, h3, dd2⟩ := S2.get h
      rw [ho] at ho2
      cases ho2
      cases eo2
      exact f2
    refine ⟨a, _, rfl, .inl ⟨kvs, Sum.inl k0, h2, rfl, Evl.sz_lt (by rw [dd.len]; exact hz), rfl⟩, k O σ F2 _ (e.trans (e1.trans e2)) (S2.writeS h ho (fun a' z => z) (fun a' z => upd_ne fun q => z (by rw [q]; rfl)) (fun a' z => ?_) ⟨a, _, rfl, f2, upd_same, (DcAll.mono dd fun x => x.ex e2).put (d1.ex e2)⟩)⟩
    by_cases q : a' = a
    · rw [q, upd_same]; simp
    · rw [upd_ne q]; exact z
theorem q_dput (h : ρ[i]? = some (.dic b kd)) (hv : Ev c b tv ρ d) (hk : EvR c ty ρ (.int k0)) (hz : kd.length < 100000) (k : Go c B tz D (ρ.set i (.dic b (dput kd k0 d)))) : Go c B (tSeq (sDPut (tVar i) ty tv) tz) D ρ := go_dput (D := { D with nx := tz D }) h hv hk hz k
/-- a new dict -/
theorem Sim.setDic {O : Addr → Prop} {σ : St} {F H : Hp} {p : Addr} {kvs : List (Key × V)} (S : Sim c O ρ σ F H) (j : Nat) (fp : F p = none) (hp : H p = some (.dK kvs)) (no : NotOwn ρ σ p) (x : DcAll (c.pw b) F kvs kd) :
    Sim c O (ρ.set j (.dic b kd)) (σ.set j (some (.ref p))) F H := S.setS ⟨p, kvs, rfl, fp, hp, x⟩ fun a (e : some (V.ref p) = some (V.ref a)) => by
  cases e
  exact no
theorem go_dnew (k : Nx c B D (ρ.set i (.dic b []))) : Go c B (tAsg tDNewK (gName i)) D ρ := fun O σ F H e S p hp =>
  k O _ F _ e ((S.lay hp).setDic i (S.fresh hp) upd_same (S.notOwn hp) ⟨rfl, .nil⟩)
theorem q_dnew (k : Go c B tz D (ρ.set i (.dic b []))) : Go c B (tSeq (tAsg tDNewK (gName i)) tz) D ρ := go_dnew (D := { D with nx := tz D }) k
/-- a display of one pair -/
theorem go_disp1 (hk : EvR c ty ρ (.int k0)) (hv : Ev c b tv ρ d) (k : Nx c B D (ρ.set i (.dic b [(k0, d)]))) : Go c B (tAsg (tDisp [(ty, tv)]) (gName i)) D ρ := fun O σ F H e S p hp => by
  have S0 : Sim c (fun a => O a ∨ a = p) ρ σ F (upd H p (.dK [])) := by
    refine (S.lay hp).sub fun a h => ?_
    rcases h with h | h
    · exact (S.lay hp).prot a h
    · subst h; exact ⟨S.fresh hp, by rw [upd_same]; simp⟩
  have no := S.notOwn hp
  refine hk _ σ F _ S0 _ fun w F1 H1 e1 g1 S1 d1 => hv _ σ F1 H1 S1 _ fun v F2 H2 e2 g2 S2 d2 => ?_
  cases d1
  have h2 : H2 p = some (.dK []) := g2 _ _ (g1 _ _ upd_same)
  refine ⟨h2, [(Sum.inl k0, v)], rfl, by simp, ?_⟩
  have fp : F2 p = none := (S2.prot p (.inr rfl)).1
  have S3 : Sim c O ρ σ F2 (upd H2 p (.dK [(Sum.inl k0, v)])) := by
    refine ⟨S2.base, fun a u q => ?_, fun a h => ?_, S2.len, fun k s o q1 q2 => ?_, S2.apart⟩
    · rw [upd_ne fun z => by rw [z, fp] at q; cases q]
      exact S2.ff a u q
    · refine ⟨(S2.prot a (.inl h)).1, ?_⟩
      by_cases z : a = p
      · rw [z, upd_same]; simp
      · rw [upd_ne z]; exact (S2.prot a (.inl h)).2
    · have y := S2.sl k s o q1 q2
      refine y.move (Evl.Ex.refl _) fun a' ha => ⟨(y.owned ha).1, upd_ne fun z => ?_⟩
      subst z
      exact no k s o q1 q2 ha
  exact k O _ F2 _ (e.trans (e1.trans e2)) (S3.setDic i fp upd_same no ⟨rfl, .one d2⟩)
theorem q_disp1 (hk : EvR c ty ρ (.int k0)) (hv : Ev c b tv ρ d) (k : Go c B tz D (ρ.set i (.dic b [(k0, d)]))) : Go c B (tSeq (tAsg (tDisp [(ty, tv)]) (gName i)) tz) D ρ := go_disp1 (D := { D with nx := tz D }) hk hv k
/-- an own dict becomes data -/
theorem Sim.freezeD {O : Addr → Prop} {σ : St} {F H : Hp} (S : Sim c O ρ σ F H) {i : Nat} (h : ρ[i]? = some (.dic b kd)) : ∃ F', Ex F F' ∧ Sim c (fun _ => False) (ρ.set i (.val b (dicD kd))) σ F' H := by
  obtain ⟨o, ho, a, kvs, e, f0, h1, dd⟩ := S.get h
  have ef : Ex F (upd F a (.dK kvs)) := Evl.Ex.new f0
  have n0 : c.H0 a = none := Evl.fresh_back S.base f0
  have ff : Ex (upd F a (.dK kvs)) H := fun x o e => by
    by_cases z : x = a
    · subst z; rw [upd_same] at e; cases e; exact h1
    · rw [upd_ne z] at e; exact S.ff x o e
  refine ⟨_, ef, S.freezeS h ho ef ff (fun a' (z : False) => z.elim) (fun a' f z => by rw [upd_ne fun q => z (by rw [q]; exact e)]; exact f) ⟨.ref a, e, .ofDic (Cq.any n0) (.inl upd_same) (DcAll.mono dd fun x => x.ex ef)⟩⟩
theorem go_freezeD {t : TS} (h : ρ[i]? = some (.dic b kd)) (k : Go c B t D (ρ.set i (.val b (dicD kd)))) : Go c B t D ρ := fun O σ F H e S => by
  obtain ⟨F', ef, S'⟩ := S.freezeD h
  exact k _ σ F' H (e.trans ef) S'
/-! tuples of ints compared -/
def rGtT (K : PySem.W.Frag) : R2 := fun x y H Q => ∃ (a b : Addr) (ns ms : List Int), x = .ref a ∧ y = .ref b ∧ SqT K H a (ns.map V.int) ∧ SqT K H b (ms.map V.int) ∧
  Q (.bl (Ob.lexAt (fun j => decide (ns.getD j 0 = ms.getD j 0)) (fun j => decide (ms.getD j 0 < ns.getD j 0)) (decide (ns.length > ms.length)) 0 (min ns.length ms.length))) H
theorem op_gtT {X : Cx} (hu : X.A.units < cLine) : OpR X (compareOp .Gt) (rGtT X.K) := by
  intro pins s σ H x y v u Q I rx ry h
  obtain ⟨a, b, ns, ms, rfl, rfl, ha, hb, q⟩ := h
  cases rx
  cases ry
  obtain ⟨its, r1, p1, _⟩ := I.tuple ha
  obtain ⟨its2, r2, p2, _⟩ := I.tuple hb
  have i1 : PyProof.Rows.IntsAre its ns := Vals.ints r1
  have i2 : PyProof.Rows.IntsAre its2 ms := Vals.ints r2
  have e1 : its.toArray.size = ns.length := by rw [List.size_toArray]; exact i1.length
  have e2 : its2.toArray.size = ms.length := by rw [List.size_toArray]; exact i2.length
  have at1 : ∀ j (h1 : j < its.toArray.size), ∃ t, its.toArray[j] = .int (ns.getD j 0) t := fun j h1 => PyProof.Rows.IntsAre.int_at i1 _ _ (by simp at h1; simp [h1])
  have at2 : ∀ j (h1 : j < its2.toArray.size), ∃ t, its2.toArray[j] = .int (ms.getD j 0) t := fun j h1 => PyProof.Rows.IntsAre.int_at i2 _ _ (by simp at h1; simp [h1])
  have R := Ob.RcOp.tuples_gt (A := X.A) (s := s) (e := fun j => decide (ns.getD j 0 = ms.getD j 0)) (r := fun j => decide (ms.getD j 0 < ns.getD j 0)) p1 p2 hu (fun j h1 h2 => by
    obtain ⟨t, et⟩ := at1 j h1
    obtain ⟨t', et'⟩ := at2 j h2
    rw [et, et']
    have z : (ns.getD j 0 == ms.getD j 0) = decide (ns.getD j 0 = ms.getD j 0) := by
      by_cases q : ns.getD j 0 = ms.getD j 0
      · rw [decide_eq_true q]; exact beq_iff_eq.mpr q
      · rw [decide_eq_false q]; exact beq_eq_false_iff_ne.mpr q
    rw [← z]
    exact SeqAt.EqAt.int_int _ _ _ _) (fun j h1 h2 _ => by
    obtain ⟨t, et⟩ := at1 j h1
    obtain ⟨t', et'⟩ := at2 j h2
    rw [et, et']
    exact Ob.RcOp.gt_int _ _ _ _)
  rw [e1, e2] at R
  have z : wpAny (model X.prog X.w) X.A (compareOp .Gt (.ref a) (.ref b)) (EP X pins σ Q) X.xe s := R X.prog X.w X.xe (EP X pins σ Q) ⟨.bl _, H, I, rfl, q⟩
  exact z
theorem k_gtT {X : Cx} (K : PySem.W.Frag) (hu : X.A.units < cLine) (h : X.K = K := by rfl) : OpR X (compareOp .Gt) (rGtT K) := h ▸ op_gtT hu
/-- (x, y) > (z, w) -/
theorem ev_gt2 {x y z w : Int} (ha : EvR c ta ρ (.tuple [.int x, .int y])) (hb : EvR c tb ρ (.tuple [.int z, .int w])) : Ev c b (tOp (rGtT K) ta tb) ρ (.bool (decide (z < x ∨ (x = z ∧ w < y)))) := fun O σ F H S Q k => by
  refine ha O σ F H S _ fun v F1 H1 e1 h1 S1 d1 => hb O σ F1 H1 S1 _ fun u F2 H2 e2 h2 S2 d2 => ?_
  cases d1 with
  | @tup a xs _ p r q =>
    cases d2 with
    | @tup a' ys _ p' r' q' =>
      have q1 := DdAll.ints (ns := [x, y]) q
      have q2 := DdAll.ints (ns := [z, w]) q'
      subst q1; subst q2
      refine ⟨a, a', [x, y], [z, w], rfl, rfl, .inl (rd_ex h2 r), .inl r', ?_⟩
      have e : (Ob.lexAt (fun j => decide (([x, y] : List Int).getD j 0 = ([z, w] : List Int).getD j 0)) (fun j => decide (([z, w] : List Int).getD j 0 < ([x, y] : List Int).getD j 0)) (decide (([x, y] : List Int).length > ([z, w] : List Int).length)) 0 (min ([x, y] : List Int).length ([z, w] : List Int).length)) = decide (z < x ∨ (x = z ∧ w < y)) := by
        show (if decide (x = z) = true then (if decide (y = w) = true then decide (2 > 2) else decide (w < y)) else decide (z < x)) = _
        by_cases h1 : x = z
        · rw [decide_eq_true h1, if_pos rfl]
          by_cases h2 : y = w
          · rw [decide_eq_true h2, if_pos rfl]
            exact (decide_eq_false (by omega)).trans (decide_eq_false (by omega)).symm
          · rw [decide_eq_false h2, if_neg (by simp)]
            exact decide_eq_decide.mpr (by omega)
        · rw [decide_eq_false h1, if_neg (by simp)]
          exact decide_eq_decide.mpr (by omega)
      rw [e]
      exact k _ F2 H2 (e1.trans e2) (h1.trans h2) S2 (.bl _)
end
section
variable {K : PySem.W.Frag} {c : Cq K} {b b0 : Bool} {ρ : Rho} {g : TG} {tt : TT} {te tl ta0 : TE} {ta : TA} {vs js : List Nat} {i j : Int}
/-- a comprehension over a list that is known only by what holds of it -/
theorem el_lcNN {α : Type} {enc : α → PyData} (PX : List α → Prop) (p : α → Bool) (P : α → PyData → Prop) (hl : EvN c b0 tl ρ (fun d => ∃ xs : List α, d = .list (xs.map enc) ∧ PX xs)) (hz : ∀ xs, PX xs → xs.length ≤ 40000) (hjs : ∀ j ∈ js, j ∈ vs)
    (ht : ∀ xs, PX xs → ∀ x ∈ xs, ∃ ρ', TgOk c b0 g js (wipeR ρ vs) (enc x) ρ' ∧ EvB c tt ρ' (p x) ∧ (p x = true → EvN c b te ρ' (P x))) :
    EvLN c b (tLc (iList K tl) g tt te vs) ρ (fun ds => ∃ xs, PX xs ∧ Each P (xs.filter p) ds) := fun O σ F H S Q k => by
  refine hl O σ F H S _ fun d0 v0 F1 H1 p1 e1 h1 S1 d1 => ?_
  obtain ⟨xs, rfl, px⟩ := p1
  cases d1 with
  | @lst a xv _ r d1 =>
  have r1 := dd_sq Cq.kl S1.ff r
  have hz := hz xs px
  have ht := ht xs px
  refine ⟨a, rfl, ⟨_, r1⟩, fun D hD => ?_⟩
  have nD : ¬ ownA ρ σ D := fun z => (S1.ownA_prot z).2 hD
  have lenx : xv.length = xs.length := by rw [d1.length, List.length_map]
  refine lc_list (K := K) (a := a) (xs := xv) (fun i H' => ∃ ds F' ys, Each P ((xs.take i).filter p) ds ∧ LcInv c b O ρ σ F1 H1 D ds F' H' ys) ?_ ?_ ?_ ?_
  · exact ⟨[], F1, [], by simp; exact .nil, Evl.Ex.refl _, Evl.Ex.new hD, upd_same, S1.fresh hD, S1.lay hD, .nil⟩
  · rintro i H' hi ⟨ds, F', ys, E, I⟩
    exact sq_ex I.eh r1
  · rintro i x H' hx ⟨ds, F', ys, E, I⟩
    obtain ⟨d, hd, dd⟩ := d1.getV hx
    rw [List.getElem?_map] at hd
    cases hu : xs[i]? with
    | none => rw [hu] at hd; cases hd
    | some u =>
      rw [hu] at hd
      cases hd
      obtain ⟨ρ', ht'⟩ := ht u (List.mem_of_getElem? hu)
      refine lc_turnN I hD nD (dd.ex I.ef) ht' hjs ?_ (fun pf F2 H2 ys2 I2 => ⟨ds, F2, ys2, ?_, I2⟩) fun pt h F2 H2 ys2 hh I2 => ⟨ds ++ [h], F2, ys2, ?_, I2⟩
      · rw [E.len]
        have q1 := List.length_filter_le p (xs.take i)
        have q2 : (xs.take i).length ≤ xs.length := by rw [List.length_take]; omega
        omega
      · rw [take_filter xs p hu, pf]; exact E
      · rw [take_filter xs p hu, pt]; exact E.snoc hh
  · rintro H' ⟨ds, F', ys, E, I⟩
    rw [lenx, List.take_length] at E
    exact k ds D ys F' H' ⟨xs, px, E⟩ (e1.trans I.ef) (h1.trans I.eh) I.sim (Evl.fresh_back h1 hD) I.fD I.at_ (fun i s o q1 q2 q3 => nD ⟨i, s, o, q1, q2, q3⟩) I.dd
theorem Each.det {α : Type} {h : α → PyData} : ∀ {xs : List α} {ds : List PyData}, Each (fun x d => d = h x) xs ds → ds = xs.map h
  | [], [], _ => rfl
  | [], _ :: _, e => by have := e.len; simp at this
  | _ :: _, [], e => by have := e.len; simp at this
  | x :: xs, d :: ds, e => by
    have q := e.at_ 0 x d rfl rfl
    rw [List.map_cons, ← q, Each.det (h := h) (xs := xs) (ds := ds) ⟨by have := e.len; simpa using this, fun i y z h1 h2 => e.at_ (i + 1) y z (by simpa using h1) (by simpa using h2)⟩]
theorem EvN.det {P : PyData → Prop} {d : PyData} (h : EvN c b te ρ P) (e : ∀ d', P d' → d' = d) : Ev c b te ρ d := fun O σ F H S Q k => h O σ F H S Q fun d' v F' H' p e1 e2 S' dd => k v F' H' e1 e2 S' (e d' p ▸ dd)
/-- min of a list that is known by what holds of it -/
theorem en_min {PN : List Int → Prop} (ha : EvN c b ta0 ρ (fun d => ∃ ns : List Int, d = .list (ns.map PyData.int) ∧ PN ns)) (hn : ∀ ns, PN ns → ns ≠ []) : EvN c b (tCB (rMin K) (tCons ta0 tNil)) ρ (fun d => ∃ ns m, PN ns ∧ d = .int m ∧ m ∈ ns ∧ ∀ y ∈ ns, m ≤ y) := fun O σ F H S Q k => by
  refine ha O σ F H S _ fun d v F1 H1 p1 e1 h1 S1 d1 => ?_
  obtain ⟨ns, rfl, pn⟩ := p1
  cases d1 with
  | lst r q =>
    have e := q.ints
    subst e
    refine ⟨_, ns, rfl, dd_sq Cq.kl S1.ff r, List.length_pos_iff.mpr (hn ns pn), fun n h1' h2' => ?_⟩
    exact k _ _ F1 H1 ⟨ns, n, pn, rfl, h1', h2'⟩ e1 h1 S1 (.int _)
end
end DL

end
section
set_option maxRecDepth 100000
set_option maxHeartbeats 2000000
/-! tables: new lists of new lists, which the caller may change all through -/
namespace DL
open PySem PySem.Spec PyProof.Rows L2
/-- a row: data that is a known list -/
def EvRw {K : PySem.W.Frag} (c : Cq K) (b : Bool) (te : TE) (ρ : Rho) (P : PyData → Prop) : Prop := ∀ (O : Addr → Prop) (σ : St) (F H : Hp), Sim c O ρ σ F H → ∀ Q : VK, (∀ d q ys F' H', P d → Ex F F' → Ex H H' → Sim c O ρ σ F' H' → Dd (c.pw b) F' (.ref q) d → F' q = some (.lst ys) → Q (.ref q) H') → te σ H Q
/-- a table of its own -/
def EvTb {K : PySem.W.Frag} (c : Cq K) (b : Bool) (te : TE) (ρ : Rho) (PA : List PyData → Prop) : Prop := ∀ (O : Addr → Prop) (σ : St) (F H : Hp), Sim c O ρ σ F H → ∀ Q : VK,
  (∀ ds p xs F' H', PA ds → Ex F F' → Ex H H' → Sim c O ρ σ F' H' → H p = none → F' p = none → H' p = some (.lst xs) → NotOwn ρ σ p → DdAll (c.pw b) F' xs ds → RowsIn F' xs → Q (.ref p) H') → te σ H Q
/-- rows that are new -/
def RowsNew (H H' : Hp) (p : Addr) (xs : List V) : Prop := ∀ x ∈ xs, ∃ q ys, x = V.ref q ∧ H q = none ∧ q ≠ p ∧ H' q = some (.lst ys)
/-- what a table def may hand back -/
def RtT {K : PySem.W.Frag} (c : Cq K) (Q : VK) (ds : List PyData) : Prop := ∀ p xs H', Ex c.H0 H' → c.H0 p = none → H' p = some (.lst xs) → DdAll (only fun a => c.H0 a = none ∧ a ≠ p) H' xs ds → RowsNew c.H0 H' p xs → Q (.ref p) H'
/-- data, or a table that the caller may change -/
def spT (K : PySem.W.Frag) (P : List PyData → Prop) (R : List PyData → PyData → Prop) (RT : List PyData → List PyData → Prop) : Sp := fun vs H Q _ => ∃ ds, DdAll (T1 K) H vs ds ∧ P ds ∧ (∀ r v H', R ds r → Ex H H' → Dd (only fun a => H a = none) H' v r → Q v H') ∧
  (∀ r p xs H', RT ds r → Ex H H' → H p = none → H' p = some (.lst xs) → DdAll (only fun a => H a = none ∧ a ≠ p) H' xs r → RowsNew H H' p xs → Q (.ref p) H')
theorem spT_N {K : PySem.W.Frag} {P : List PyData → Prop} {R R' : List PyData → PyData → Prop} {RT : List PyData → List PyData → Prop} (h1 : ∀ ds r, R ds r → R' ds r) (h2 : ∀ ds r, RT ds r → R' ds (.list r)) : ∀ vs H Q E, spN K P R' vs H Q E → spT K P R RT vs H Q E := by
  rintro vs H Q E ⟨ds, hd, hP, k⟩
  refine ⟨ds, hd, hP, fun r v H' hR e dd => k r v H' (h1 _ _ hR) e dd, fun r p xs H' hR e hp at_ dd rn => k _ _ H' (h2 _ _ hR) e (.lst (.inl ⟨hp, .inl at_⟩) (dd.mono (fun a u (pa : H a = none ∧ a ≠ p) ra => ⟨pa.1, ra⟩) fun _ _ (h : False) => h.elim))⟩
theorem Cl.imp {P : Program} {w : World} {K : PySem.W.Frag} {mg : Str → Option Value} {base : Heap} {CX : CXT} {k : Nat} {x : Str} {sp sp' : Sp} (h : Cl P w K mg base CX k x sp) (g : ∀ vs H Q E, sp' vs H Q E → sp vs H Q E) : Cl P w K mg base CX k x sp' := by
  obtain ⟨f, fd, ps, F, h1, h2, h3⟩ := h.ex
  exact ⟨f, fd, ps, F.imp g, h1, h2, h3⟩
section
variable {K : PySem.W.Frag} {c : Cq K} {B : Hp} {b b0 : Bool} {ρ : Rho} {D : Ends} {g : TG} {tt : TT} {te tl ta0 : TE} {ta : TA} {tz : TS} {vs js : List Nat} {i : Nat} {ds es : List PyData} {PA : List PyData → Prop} {P : PyData → Prop}
theorem EvLN.row (h : EvLN c b te ρ PA) : EvRw c b te ρ (fun d => ∃ es, d = .list es ∧ PA es) := fun O σ F H S Q k => h O σ F H S Q fun ds p xs F' H' p1 e1 e2 S' hp fp h1 ow dd => by
  have n0 : c.H0 p = none := Evl.fresh_back S.bb hp
  have ef : Ex F' (upd F' p (.lst xs)) := Evl.Ex.new fp
  have ff : Ex (upd F' p (.lst xs)) H' := fun a o e => by
    by_cases z : a = p
    · subst z; rw [upd_same] at e; cases e; exact h1
    · rw [upd_ne z] at e; exact S'.ff a o e
  refine k _ p xs (upd F' p (.lst xs)) H' ⟨ds, rfl, p1⟩ (e1.trans ef) e2 ⟨S'.base.trans ef, ff, fun a h => ⟨by rw [upd_ne (fun z => (S.prot a h).2 (by rw [z]; exact hp))]; exact (S'.prot a h).1, (S'.prot a h).2⟩, S'.len, fun i s o hi ho => ?_, S'.apart⟩ (.lst (.inl ⟨Cq.any n0, .inl upd_same⟩) (dd.ex ef)) upd_same
  exact (S'.sl i s o hi ho).move ef fun a ha => ⟨by rw [upd_ne (fun z => ow i s o hi ho (by rw [← z]; exact ha))]; exact ((S'.sl i s o hi ho).owned ha).1, rfl⟩
theorem EvRw.mono {P' : PyData → Prop} (h : EvRw c b te ρ P) (p : ∀ d, P d → P' d) : EvRw c b te ρ P' := fun O σ F H S Q k => h O σ F H S Q fun d q ys F' H' pd e1 e2 S' dd r => k d q ys F' H' (p d pd) e1 e2 S' dd r
theorem EvL.row (h : EvL c b te ρ es) : EvRw c b te ρ (fun d => d = .list es) := ((h.n (PA := fun x => x = es) rfl).row).mono fun d ⟨x, e, q⟩ => by rw [e, q]
theorem EvTb.mono {P' : List PyData → Prop} (h : EvTb c b te ρ PA) (p : ∀ d, PA d → P' d) : EvTb c b te ρ P' := fun O σ F H S Q k => h O σ F H S Q fun ds a xs F' H' p1 e1 e2 S' hp fp at_ no dd rr => k ds a xs F' H' (p ds p1) e1 e2 S' hp fp at_ no dd rr
theorem et_nil : EvTb c b (tLst tNil) ρ (fun ds => ds = []) := fun O σ F H S Q k => by
  refine el_lst (b := b) (ds := []) ef_nil (Nat.zero_le _) O σ F H S Q fun p xs F' H' e1 e2 S' hp fp at_ no dd => ?_
  cases dd
  exact k [] p [] F' H' rfl e1 e2 S' hp fp at_ no .nil fun x hx => (List.not_mem_nil hx).elim
theorem Sim.setTab {O : Addr → Prop} {σ : St} {F H : Hp} {p : Addr} {xs : List V} (S : Sim c O ρ σ F H) (j : Nat) (fp : F p = none) (hp : H p = some (.lst xs)) (no : NotOwn ρ σ p) (x : DdAll (c.pw b) F xs ds) (r : RowsIn F xs) :
    Sim c O (ρ.set j (.tab b ds)) (σ.set j (some (.ref p))) F H := S.setS ⟨p, xs, rfl, fp, hp, x, r⟩ fun a (e : some (V.ref p) = some (V.ref a)) => by
  cases e
  exact no
theorem go_tb (h : EvTb c b te ρ PA) (k : ∀ ds, PA ds → Nx c B D (ρ.set i (.tab b ds))) : Go c B (tAsg te (gName i)) D ρ := fun O σ F H e S =>
  h O σ F H S _ fun ds p xs F1 H1 p1 e1 h1 S1 hp fp at_ no d1 rr => k ds p1 O _ F1 H1 (e.trans e1) (S1.setTab i fp at_ no d1 rr)
theorem q_tb (h : EvTb c b te ρ PA) (k : ∀ ds, PA ds → Go c B tz D (ρ.set i (.tab b ds))) : Go c B (tSeq (tAsg te (gName i)) tz) D ρ := go_tb (D := { D with nx := tz D }) h k
theorem q_tb0 (k : Go c B tz D (ρ.set i (.tab b []))) : Go c B (tSeq (tAsg (tLst tNil) (gName i)) tz) D ρ := q_tb et_nil fun ds e => by rw [e]; exact k
theorem er_tab0 {k : Nat} (h : ρ[k]? = some (.tab b ds)) : EvR c (tVar k) ρ (.list ds) := fun O σ F H S Q q => by
  obtain ⟨o, ho, a, xs, e, f0, h1, dd, _⟩ := S.get h
  exact ⟨_, by rw [ho, e], q _ F H (Evl.Ex.refl _) (Evl.Ex.refl _) S (.lst (.inl ⟨trivial, .inl h1⟩) (dd.up ⟨fun _ _ => trivial, Cq.kl⟩ S.ff))⟩
/-- a row appended -/
theorem go_appT (h : ρ[i]? = some (.tab b ds)) (hd : EvRw c b te ρ P) (hz : ds.length < 100000) (k : ∀ d, P d → Nx c B D (ρ.set i (.tab b (ds ++ [d])))) : Go c B (tDrop (tBM K "list" rAppend (tVar i) (tCons te tNil))) D ρ := fun O σ F H e S => by
  obtain ⟨o, ho, a, xs, eo, f0, h1, dd, rr⟩ := S.get h
  subst eo
  refine ⟨_, ho, .inl ⟨rfl, _, .inl (.inl h1)⟩, hd O σ F H S _ fun d q ys F1 H1 p e1 g1 S1 d1 r1 => ?_⟩
  have h2 := g1 _ _ h1
  refine ⟨a, xs, _, rfl, rfl, h2, Evl.sz_lt (by rw [dd.length]; exact hz), k d p O σ F1 _ (e.trans e1) (S1.writeS h ho (fun a' z => z) (fun a' z => upd_ne fun q => z (by rw [q]; rfl)) (fun a' z => ?_) ⟨a, _, rfl, ?_, upd_same, (dd.ex e1).append (.one d1), fun x hx => ?_⟩)⟩
  · by_cases q : a' = a
    · rw [q, upd_same]; simp
    · rw [upd_ne q]; exact z
  · obtain ⟨o2, ho2, a2, xs2, eo2, f2, _⟩ := S1.get h
    rw [ho] at ho2
    cases ho2
    cases eo2
    exact f2
  · rcases List.mem_append.mp hx with hx | hx
    · exact rr.ex e1 x hx
    · rw [List.mem_singleton] at hx
      exact ⟨q, ys, hx, r1⟩
theorem q_appT (h : ρ[i]? = some (.tab b ds)) (hd : EvRw c b te ρ P) (hz : ds.length < 100000) (k : ∀ d, P d → Go c B tz D (ρ.set i (.tab b (ds ++ [d])))) : Go c B (tSeq (tDrop (tBM K "list" rAppend (tVar i) (tCons te tNil))) tz) D ρ := go_appT (D := { D with nx := tz D }) h hd hz k
/-- a table handed back -/
theorem retT_sim {O : Addr → Prop} {σ : St} {F H : Hp} {p : Addr} {xs : List V} {Q : VK} (S : Sim c O ρ σ F H) (hc : ∀ a, c.NW a → c.H0 a = none) (fp : F p = none) (at_ : H p = some (.lst xs)) (dd : DdAll (c.pw true) F xs ds) (rr : RowsIn F xs) (k : RtT c Q ds) : Q (.ref p) H :=
  k p xs H S.bb (Evl.fresh_back S.base fp) at_ (dd.mono (fun a u pa ra => show (c.H0 a = none ∧ a ≠ p) ∧ H a = some u from ⟨⟨hc a pa, fun z => by
    subst z
    rw [fp] at ra; cases ra⟩, S.ff a u ra⟩) fun _ _ (h : False) => h.elim) fun x hx => by
    obtain ⟨q, ys, rfl, hq⟩ := rr x hx
    obtain ⟨j, hj⟩ := List.getElem?_of_mem hx
    obtain ⟨d, _, dx⟩ := dd.getV hj
    have nw : c.NW q := by
      cases dx with
      | lst r _ => exact r.elim (fun r => r.1) fun (h : False) => h.elim
      | tup p _ _ => exact p
      | dic p _ _ _ _ _ => exact p
      | dis p _ _ _ _ _ => exact p
      | ins p _ _ _ => exact p
    exact ⟨q, ys, rfl, hc q nw, (fun z => by rw [z, fp] at hq; cases hq), S.ff _ _ hq⟩
theorem go_retTb (hc : ∀ a, c.NW a → c.H0 a = none) (h : EvTb c true te ρ PA) (k : ∀ ds, PA ds → RtT c D.rt ds) : Go c B (tRet te) D ρ := fun O σ F H e S => h O σ F H S _ fun ds p xs F1 H1 pa e1 h1 S1 hp fp at_ no dd rr => retT_sim S1 hc fp at_ dd rr (k ds pa)
theorem go_retOT (hc : ∀ a, c.NW a → c.H0 a = none) (h : ρ[i]? = some (.tab true ds)) (k : RtT c D.rt ds) : Go c B (tRet (tVar i)) D ρ := fun O σ F H e S => by
  obtain ⟨o, ho, a, xs, eo, f0, h1, dd, rr⟩ := S.get h
  subst eo
  exact ⟨_, ho, retT_sim S hc f0 h1 dd rr k⟩
variable {PP : List PyData → Prop} {R : List PyData → PyData → Prop} {RT : List PyData → List PyData → Prop} {E : XK}
/-- .. as another def's result -/
theorem go_retTc (h : EvA c ta ρ ds) (hP : PP ds) (hc : ∀ a, c.NW a → c.H0 a = none) (hn : ∀ a, c.H0 a = none → c.NW a) (k1 : ∀ r, R ds r → Rt c D.rt r) (k2 : ∀ r, RT ds r → RtT c D.rt r) : Go c B (tRet (tCall (spT K PP R RT) [] E ta)) D ρ := fun O σ F H e S => h O σ F H S _ fun vs F1 H1 e1 h1 S1 d1 => by
  refine ⟨ds, by rw [List.append_nil]; exact d1, hP, fun r v H' hR e2 dd => ?_, fun r p xs H' hR e2 hp at_ dd rn => ?_⟩
  · exact k1 r hR v H' (S1.bb.trans e2) (dd.mono (fun a u (pa : H1 a = none) ra => ⟨hn a (Evl.fresh_back S1.bb pa), ra⟩) fun _ _ (h : False) => h.elim)
  · refine k2 r hR p xs H' (S1.bb.trans e2) (Evl.fresh_back S1.bb hp) at_ (dd.mono (fun a u (pa : H1 a = none ∧ a ≠ p) ra => show (c.H0 a = none ∧ a ≠ p) ∧ H' a = some u from ⟨⟨Evl.fresh_back S1.bb pa.1, pa.2⟩, ra⟩) fun _ _ (h : False) => h.elim) fun x hx => ?_
    obtain ⟨q, ys, e1, e2, e3, e4⟩ := rn x hx
    exact ⟨q, ys, e1, Evl.fresh_back S1.bb e2, e3, e4⟩
/-! in the caller -/
/-- a table that one slot alone knows -/
def tabR (p : Addr) (Z : Addr → Prop) (ds : List PyData) : Res where
  Z := Z
  ph := fun _ H => Z p ∧ ∃ xs, H p = some (.lst xs) ∧ DdAll (only Z) H xs ds ∧ ∀ x ∈ xs, ∃ q ys, x = V.ref q ∧ q ≠ p ∧ Z q ∧ H q = some (.lst ys)
  stay := fun F H F' H' h ef hz => by
    obtain ⟨zp, xs, at_, dd, rr⟩ := h
    refine ⟨zp, xs, by rw [hz p zp]; exact at_, dd.mono (fun a u (pa : Z a) ra => show Z a ∧ H' a = some u from ⟨pa, by rw [hz a pa]; exact ra⟩) fun _ _ (h : False) => h.elim, fun x hx => ?_⟩
    obtain ⟨q, ys, e1, e2, e3, e4⟩ := rr x hx
    exact ⟨q, ys, e1, e2, e3, by rw [hz q e3]; exact e4⟩
theorem er_tab {p : Addr} {Z : Addr → Prop} (h : ρ[i]? = some (.res (.ref p) (tabR p Z ds))) : EvR c (tVar i) ρ (.list ds) := fun O σ F H S Q q => by
  obtain ⟨o, ho, e, _, zp, xs, at_, dd, _⟩ := S.get h
  exact ⟨_, by rw [ho, e], q _ F H (Evl.Ex.refl _) (Evl.Ex.refl _) S (.lst (.inl ⟨trivial, .inl at_⟩) (dd.mono (fun a u _ ra => ⟨trivial, ra⟩) fun _ _ (h : False) => h.elim))⟩
/-- a table def called, its result kept -/
theorem go_callT (h : EvA c ta ρ ds) (hP : PP ds) (k1 : ∀ r, R ds r → Nx c B D (ρ.set i (.val b r))) (k2 : ∀ r p Z, RT ds r → Nx c B D (ρ.set i (.res (.ref p) (tabR p Z r)))) : Go c B (tAsg (tCall (spT K PP R RT) [] E ta) (gName i)) D ρ := fun O σ F H e S => h O σ F H S _ fun vs F1 H1 e1 h1 S1 d1 => by
  refine ⟨ds, by rw [List.append_nil]; exact d1, hP, fun r v H' hR e2 dd => ?_, fun r p xs H' hR e2 hp at_ dd rn => ?_⟩
  · exact k1 r hR O _ _ H' (e.trans (e1.trans (addF_ex S1.ff))) ((S1.add e2).setVal i (dd.add S1 b))
  · have S2 : Sim c O ρ σ F1 H' := S1.grow (Evl.Ex.refl _) e2 (fun a _ f0 => f0) (S1.ff.trans e2)
    refine k2 r p (fun a => H1 a = none ∧ H' a ≠ none) hR O _ F1 H' (e.trans e1) (S2.setS (j := i) (s := .res (.ref p) (tabR p (fun a => H1 a = none ∧ H' a ≠ none) r)) (o := some (.ref p)) ⟨rfl, fun a (ha : H1 a = none ∧ H' a ≠ none) => ⟨S1.fresh ha.1, ha.2⟩, ⟨hp, by rw [at_]; simp⟩, xs, at_, dd.mono (fun a u (pa : H1 a = none ∧ a ≠ p) ra => show (H1 a = none ∧ H' a ≠ none) ∧ H' a = some u from ⟨⟨pa.1, by rw [ra]; simp⟩, ra⟩) fun _ _ (h : False) => h.elim, fun x hx => ?_⟩ fun a (ha : H1 a = none ∧ H' a ≠ none) k s o q1 q2 q3 => ?_)
    · obtain ⟨q, ys, e1, e2, e3, e4⟩ := rn x hx
      exact ⟨q, ys, e1, e3, ⟨e2, by rw [e4]; simp⟩, e4⟩
    · exact ((S1.sl k s o q1 q2).owned q3).2 ha.1
theorem q_callT (h : EvA c ta ρ ds) (hP : PP ds) (k1 : ∀ r, R ds r → Go c B tz D (ρ.set i (.val b r))) (k2 : ∀ r p Z, RT ds r → Go c B tz D (ρ.set i (.res (.ref p) (tabR p Z r)))) : Go c B (tSeq (tAsg (tCall (spT K PP R RT) [] E ta) (gName i)) tz) D ρ := go_callT (D := { D with nx := tz D }) h hP k1 k2
/-! a table spoiled -/
def spB : Sp := fun vs H Q _ => ∃ p xs, vs = [V.ref p] ∧ H p = some (.lst xs) ∧ xs.length ≤ 10000 ∧ (∀ x ∈ xs, ∃ q ys, x = V.ref q ∧ q ≠ p ∧ H q = some (.lst ys) ∧ ys.length ≤ 10000) ∧
  ∀ H', (∀ a, H a ≠ none → H' a ≠ none) → (∀ a, a ≠ p → V.ref a ∉ xs → H a ≠ none → H' a = H a) → Q .non H'
theorem go_spoil {p : Addr} {Z : Addr → Prop} (h : ρ[i]? = some (.res (.ref p) (tabR p Z ds))) (hl : ds.length ≤ 10000) (hr : ∀ d ∈ ds, ∃ es, d = .list es ∧ es.length ≤ 10000) (k : Nx c B D (ρ.set i .no)) : Go c B (tDrop (tCall spB [] E (tCons (tVar i) tNil))) D ρ := fun O σ F H e S => by
  obtain ⟨o, ho, eo, ow, zp, xs, at_, dd, rr⟩ := S.get h
  subst eo
  refine ⟨_, ho, p, xs, rfl, at_, by rw [dd.length]; exact hl, fun x hx => ?_, fun H' hn hk => k O σ F H' e ?_⟩
  · obtain ⟨q, ys, rfl, ne, zq, hq⟩ := rr x hx
    obtain ⟨j, hj⟩ := List.getElem?_of_mem hx
    obtain ⟨d, hd, dx⟩ := dd.getV hj
    obtain ⟨es, rfl, el⟩ := hr d (List.mem_of_getElem? hd)
    refine ⟨q, ys, rfl, ne, hq, ?_⟩
    cases dx with
    | @lst _ ys' _ r dy =>
      rcases r with ⟨_, r⟩ | r
      · rcases r with r | ⟨o, r⟩
        · rw [hq] at r; cases r; rw [dy.length]; exact el
        · rw [hq] at r; cases r
      · exact (show False from r).elim
  · have hz : ∀ a, ¬ Z a → H a ≠ none → H' a = H a := fun a na h0 => hk a (fun z => na (by rw [z]; exact zp)) (fun hm => by
      obtain ⟨q, ys, e1, _, zq, _⟩ := rr _ hm
      cases e1
      exact na zq) h0
    -- what the slot owned is forgotten, all else stands
    refine ⟨S.base, fun a u q => ?_, fun a q => ⟨(S.prot a q).1, hn a (S.prot a q).2⟩, by rw [List.length_set]; exact S.len, fun k s o q1 q2 => ?_, fun k l s t u v x q1 q2 q3 q4 q5 q6 => ?_⟩
    · rw [hz a (fun z => by rw [(ow a z).1] at q; cases q) (by rw [S.ff a u q]; simp)]
      exact S.ff a u q
    · rw [List.getElem?_set] at q1
      split at q1
      · split at q1
        · cases q1; trivial
        · cases q1
      · rename_i nik
        have y := S.sl k s o q1 q2
        refine y.move (Evl.Ex.refl _) fun a' ha => ⟨(y.owned ha).1, hz a' (fun z => nik (S.apart i k _ _ _ _ a' h q1 ho q2 z ha)) (y.owned ha).2⟩
    · have gg : ∀ (k : Nat) (s : Sl) (u : Option V), (ρ.set i .no)[k]? = some s → s.Owns u x → ρ[k]? = some s := fun k s u q1 q2 => by
        rw [List.getElem?_set] at q1
        split at q1
        · split at q1
          · cases q1; exact (show False from q2).elim
          · cases q1
        · exact q1
      exact S.apart k l s t u v x (gg k s u q1 q5) (gg l t v q2 q6) q3 q4 q5 q6
theorem q_spoil {p : Addr} {Z : Addr → Prop} (h : ρ[i]? = some (.res (.ref p) (tabR p Z ds))) (hl : ds.length ≤ 10000) (hr : ∀ d ∈ ds, ∃ es, d = .list es ∧ es.length ≤ 10000) (k : Go c B tz D (ρ.set i .no)) : Go c B (tSeq (tDrop (tCall spB [] E (tCons (tVar i) tNil))) tz) D ρ := go_spoil (D := { D with nx := tz D }) h hl hr k
/-- two ints out of a list that is only read -/
theorem go_unl2R {i1 i2 : Nat} {x y : Int} (h : EvR c te ρ (.list [.int x, .int y])) (k : Nx c B D ((ρ.set i1 (nI x)).set i2 (nI y))) : Go c B (tAsg te (gUnl K 2 (gCons (gName i1) (gCons (gName i2) gNil)))) D ρ := fun O σ F H e S => h O σ F H S _ fun v F1 H1 e1 h1 S1 d1 => by
  cases d1 with
  | lst r q =>
    have q1 := DdAll.ints (ns := [x, y]) q
    subst q1
    exact ⟨_, _, rfl, dd_sq (fun _ _ h => h) (Evl.Ex.refl _) r, rfl, _, _, rfl, _, _, rfl, rfl, k O _ F1 H1 (e.trans e1) ((S1.setVal (b := false) i1 (.int x)).setVal (b := false) i2 (.int y))⟩
theorem q_unl2R {i1 i2 : Nat} {x y : Int} (h : EvR c te ρ (.list [.int x, .int y])) (k : Go c B tz D ((ρ.set i1 (nI x)).set i2 (nI y))) : Go c B (tSeq (tAsg te (gUnl K 2 (gCons (gName i1) (gCons (gName i2) gNil)))) tz) D ρ := go_unl2R (D := { D with nx := tz D }) h k
/-! comprehensions of rows -/
theorem lc_turnT {O : Addr → Prop} {σ : St} {F1 H1 F' H' : Hp} {Dl : Addr} {acc : List PyData} {ys : List V} {ρ' : Rho} {p : Bool} {P0 : PyData → Prop} {x : V} {d : PyData} {Pn : Hp → Prop} (I : LcInv c b O ρ σ F1 H1 Dl acc F' H' ys) (rr : RowsIn F' ys) (hD : H1 Dl = none) (nD : ¬ ownA ρ σ Dl) (dx : Dd (c.pw b0) F' x d)
    (ht : TgOk c b0 g js (wipeR ρ vs) d ρ' ∧ EvB c tt ρ' p ∧ (p = true → EvRw c b te ρ' P0)) (hjs : ∀ j ∈ js, j ∈ vs) (hz : acc.length < 50000)
    (hP0 : p = false → ∀ F2 H2 ys2, LcInv c b O ρ σ F1 H1 Dl acc F2 H2 ys2 → RowsIn F2 ys2 → Pn H2) (hP1 : p = true → ∀ h F2 H2 ys2, P0 h → LcInv c b O ρ σ F1 H1 Dl (acc ++ [h]) F2 H2 ys2 → RowsIn F2 ys2 → Pn H2) :
    g x (wipe σ vs) H' fun σ2 H2 => wipe σ2 vs = wipe σ vs ∧ tt σ2 H2 fun bb H3 => if bb = true then te σ2 H3 fun y H4 => ∃ acc, H4 Dl = some (.lst acc) ∧ acc.length < sizeLine ∧ Pn (upd H4 Dl (.lst (acc ++ [y]))) else Pn H3 := by
  obtain ⟨tg, eb, ee⟩ := ht
  have S0 : Sim c (fun a => O a ∨ a = Dl ∨ ownA ρ σ a) ρ σ F' H' := I.sim.sub fun a h => by
    rcases h with h | h | h
    · exact I.sim.prot a h
    · subst h; exact ⟨I.fD, by rw [I.at_]; simp⟩
    · exact I.sim.ownA_prot h
  refine tg _ _ F' H' x (S0.wipe vs) dx _ fun σ2 l2 a2 S2 => ⟨wipe_eq l2 a2 hjs, eb _ σ2 F' H' S2 _ fun F3 H3 e3 g3 S3 => ?_⟩
  cases p with
  | false =>
    refine iteF (hP0 rfl F3 H3 ys ⟨I.ef.trans e3, I.eh.trans g3, g3 _ _ I.at_, (S3.prot Dl (.inr (.inl rfl))).1, ?_, I.dd.ex e3⟩ (rr.ex e3))
    exact I.sim.again0 e3 g3 S3.ff (fun a h => (S3.prot a (.inl h)).1) fun a h => (S3.prot a (.inr (.inr h))).1
  | true =>
    refine iteT (ee rfl _ σ2 F3 H3 S3 _ fun hd q zs F4 H4 hp e4 g4 S4 dy hq => ?_)
    have fD4 : F4 Dl = none := (S4.prot Dl (.inr (.inl rfl))).1
    refine ⟨ys, g4 _ _ (g3 _ _ I.at_), Nat.lt_of_lt_of_le (by rw [I.dd.length]; exact hz) (by decide), hP1 rfl hd F4 _ (ys ++ [.ref q]) hp ⟨I.ef.trans (e3.trans e4), (I.eh.trans (g3.trans g4)).mut hD, upd_same, fD4, ?_, ?_⟩ fun x hx => ?_⟩
    · exact I.sim.again (e3.trans e4) (g3.trans g4) S4.ff (fun a h => (S4.prot a (.inl h)).1) (fun a h => (S4.prot a (.inr (.inr h))).1) nD fD4
    · exact (I.dd.ex (e3.trans e4)).append (.one dy)
    · rcases List.mem_append.mp hx with hx | hx
      · exact rr.ex (e3.trans e4) x hx
      · rw [List.mem_singleton] at hx
        exact ⟨q, zs, hx, hq⟩
theorem el_lcT {α : Type} {enc : α → PyData} (PX : List α → Prop) (p : α → Bool) (P0 : α → PyData → Prop) (hl : EvN c b0 tl ρ (fun d => ∃ xs : List α, d = .list (xs.map enc) ∧ PX xs)) (hz : ∀ xs, PX xs → xs.length ≤ 40000) (hjs : ∀ j ∈ js, j ∈ vs)
    (ht : ∀ xs, PX xs → ∀ x ∈ xs, ∃ ρ', TgOk c b0 g js (wipeR ρ vs) (enc x) ρ' ∧ EvB c tt ρ' (p x) ∧ (p x = true → EvRw c b te ρ' (P0 x))) :
    EvTb c b (tLc (iList K tl) g tt te vs) ρ (fun ds => ∃ xs, PX xs ∧ Each P0 (xs.filter p) ds) := fun O σ F H S Q k => by
  refine hl O σ F H S _ fun d0 v0 F1 H1 p1 e1 h1 S1 d1 => ?_
  obtain ⟨xs, rfl, px⟩ := p1
  cases d1 with
  | @lst a xv _ r d1 =>
  have r1 := dd_sq Cq.kl S1.ff r
  have hz := hz xs px
  have ht := ht xs px
  refine ⟨a, rfl, ⟨_, r1⟩, fun Dl hD => ?_⟩
  have nD : ¬ ownA ρ σ Dl := fun z => (S1.ownA_prot z).2 hD
  have lenx : xv.length = xs.length := by rw [d1.length, List.length_map]
  refine lc_list (K := K) (a := a) (xs := xv) (fun i H' => ∃ ds F' ys, Each P0 ((xs.take i).filter p) ds ∧ LcInv c b O ρ σ F1 H1 Dl ds F' H' ys ∧ RowsIn F' ys) ?_ ?_ ?_ ?_
  · exact ⟨[], F1, [], by simp; exact .nil, ⟨Evl.Ex.refl _, Evl.Ex.new hD, upd_same, S1.fresh hD, S1.lay hD, .nil⟩, fun x hx => (List.not_mem_nil hx).elim⟩
  · rintro i H' hi ⟨ds, F', ys, E, I, rr⟩
    exact sq_ex I.eh r1
  · rintro i x H' hx ⟨ds, F', ys, E, I, rr⟩
    obtain ⟨d, hd, dd⟩ := d1.getV hx
    rw [List.getElem?_map] at hd
    cases hu : xs[i]? with
    | none => rw [hu] at hd; cases hd
    | some u =>
      rw [hu] at hd
      cases hd
      obtain ⟨ρ', ht'⟩ := ht u (List.mem_of_getElem? hu)
      refine lc_turnT I rr hD nD (dd.ex I.ef) ht' hjs ?_ (fun pf F2 H2 ys2 I2 r2 => ⟨ds, F2, ys2, ?_, I2, r2⟩) fun pt h F2 H2 ys2 hh I2 r2 => ⟨ds ++ [h], F2, ys2, ?_, I2, r2⟩
      · rw [E.len]
        have q1 := List.length_filter_le p (xs.take i)
        have q2 : (xs.take i).length ≤ xs.length := by rw [List.length_take]; omega
        omega
      · rw [take_filter xs p hu, pf]; exact E
      · rw [take_filter xs p hu, pt]; exact E.snoc hh
  · rintro H' ⟨ds, F', ys, E, I, rr⟩
    rw [lenx, List.take_length] at E
    exact k ds Dl ys F' H' ⟨xs, px, E⟩ (e1.trans I.ef) (h1.trans I.eh) I.sim (Evl.fresh_back h1 hD) I.fD I.at_ (fun i s o q1 q2 q3 => nD ⟨i, s, o, q1, q2, q3⟩) I.dd rr
end
/-! the def that spoils a table -/
theorem spoil_walk {K : PySem.W.Frag} {H : Hp} {Q : VK} {E : XK} {v : V} {b0 : V} {b1 : V} (h : spB [v] H Q E) :
    (tSeq (tFor (iList K (tVar 0)) (gName 1) (tDrop (tBM K "list" rAppend (tVar 1) (tCons (tC (.int 7)) tNil)))) (tDrop (tBM K "list" rAppend (tVar 0) (tCons (tLst (tCons (tC (.int 8)) tNil)) tNil)))) { nx := fun _ H' => Q .non H', rt := Q } [some v, none] H := by
  obtain ⟨p, xs, e, hp, hl, rows, k⟩ := h
  cases e
  have big : (20002 : Nat) < sizeLine := by decide
  refine ⟨_, rfl, p, rfl, ⟨xs, .inl (.inl hp)⟩, ?_⟩
  -- after i rows: the table stands, each row is a list, all else stands
  refine for_list (K := K) (a := p) (xs := xs) (fun i σ' H' => σ'.length = 2 ∧ σ'[0]? = some (some (.ref p)) ∧ H' p = some (.lst xs) ∧ (∀ x ∈ xs, ∃ q ys, x = V.ref q ∧ q ≠ p ∧ H' q = some (.lst ys) ∧ ys.length ≤ 10000 + i) ∧ (∀ a, H a ≠ none → H' a ≠ none) ∧ (∀ a, V.ref a ∉ xs → H' a = H a)) ⟨rfl, rfl, hp, rows, fun _ h => h, fun _ _ => rfl⟩ ?_ ?_ ?_
  · rintro i σ' H' _ ⟨_, _, h2, _⟩
    exact .inl (.inl h2)
  · rintro i x σ' H' hx ⟨h0, h1, h2, h3, h4, h5⟩
    have hi := (List.getElem?_eq_some_iff.mp hx).1
    obtain ⟨q, ys, rfl, ne, hq, hy⟩ := h3 x (List.mem_of_getElem? hx)
    refine ⟨V.ref q, ?_, .inl ⟨rfl, _, .inl (.inl hq)⟩, q, ys, _, rfl, rfl, hq, by omega, ?_⟩
    · rw [List.getElem?_set_self (by omega)]
    refine ⟨by rw [List.length_set]; exact h0, by rw [List.getElem?_set_ne (by decide)]; exact h1, by rw [upd_ne (fun z => ne z.symm)]; exact h2, fun x' hx' => ?_, fun a ha => ?_, fun a ha => ?_⟩
    · obtain ⟨q', ys', rfl, ne', hq', hy'⟩ := h3 x' hx'
      by_cases e : q' = q
      · subst e
        exact ⟨q', _, rfl, ne', upd_same, by rw [List.length_append, List.length_singleton]; rw [hq] at hq'; cases hq'; omega⟩
      · exact ⟨q', ys', rfl, ne', by rw [upd_ne e]; exact hq', by omega⟩
    · by_cases e : a = q
      · rw [e, upd_same]; simp
      · rw [upd_ne e]; exact h4 a ha
    · rw [upd_ne fun e => ha (by rw [e]; exact List.mem_of_getElem? hx)]; exact h5 a ha
  · rintro σ' H' ⟨h0, h1, h2, h3, h4, h5⟩
    refine ⟨_, h1, .inl ⟨rfl, _, .inl (.inl h2)⟩, ?_⟩
    refine ⟨by decide, fun r hr => ⟨p, xs, _, rfl, rfl, ?_, by omega, ?_⟩⟩
    · rw [upd_ne fun e => by rw [e, hr] at h2; cases h2]; exact h2
    · refine k _ (fun a ha => ?_) (fun a ne nm ha => ?_)
      · by_cases e : a = p
        · rw [e, upd_same]; simp
        · rw [upd_ne e]
          by_cases e2 : a = r
          · rw [e2, upd_same]; simp
          · rw [upd_ne e2]; exact h4 a ha
      · rw [upd_ne ne]
        by_cases e2 : a = r
        · exfalso
          rw [← e2, h5 a nm] at hr
          exact ha hr
        · rw [upd_ne e2]; exact h5 a nm
section
variable {P : Program} {w : World} {K : PySem.W.Frag} {mg : Str → Option Value} {base : Heap} {x : Str} {st : Stmt} {N ps : List Str} {k : Nat} {PP : List PyData → Prop}
theorem cl_B (D : Dfn K mg x st ps) (S : FnScope N ps (defScope st)) (h1 : ps.length = 1) (hN : N.length = 2)
    (hbody : ∀ (f : Addr) (cdv : Value) (A : Around) (outer : List Env) (s : Shared) (H : Hp) (E : XK), Room k (A.deeper (envOfC x (defScope st) s.heap.objs.size f cdv)) →
      PSs (cxOf CX0 P w K mg base N x (defScope st) f cdv A outer s H E).nox (defBody st) (tSeq (tFor (iList K (tVar 0)) (gName 1) (tDrop (tBM K "list" rAppend (tVar 1) (tCons (tC (.int 7)) tNil)))) (tDrop (tBM K "list" rAppend (tVar 0) (tCons (tLst (tCons (tC (.int 8)) tNil)) tNil))))) :
    Cl P w K mg base CX0 (k + 1) x spB := by
  obtain ⟨f, fd, F, hm, b⟩ := D.ex
  refine ⟨f, fd, ps, F.ok S (fun vs H Q E h => ?_) (fun cdv A outer s H vs Q E hr h => ?_), hm, F.kp, b⟩
  · obtain ⟨p, xs, rfl, _⟩ := h
    rw [h1]; rfl
  · refine ⟨_, hbody f cdv A outer s H E hr, ?_⟩
    obtain ⟨p, xs, e, hh⟩ := h
    cases e
    have z : L2.start N [V.ref p] = [some (V.ref p), none] := by unfold L2.start; rw [hN]; rfl
    rw [z]
    exact spoil_walk (b0 := .non) (b1 := .non) (E := E) ⟨p, xs, rfl, hh⟩
theorem cl_T {R : List PyData → PyData → Prop} {RT : List PyData → List PyData → Prop} (D : Dfn K mg x st ps) (S : FnScope N ps (defScope st)) (hlen : ∀ ds, PP ds → ds.length = ps.length)
    (hbody : ∀ (f : Addr) (cdv : Value) (A : Around) (outer : List Env) (s : Shared) (H : Hp) (E : XK), Room k (A.deeper (envOfC x (defScope st) s.heap.objs.size f cdv)) →
      ∃ t, PSs (cxOf CX0 P w K mg base N x (defScope st) f cdv A outer s H E).nox (defBody st) t ∧ ∀ (Q : VK) (c : Cq K) ds, PP ds → (∀ a, c.NW a → c.H0 a = none) → (∀ r, R ds r → Rt c Q r) → (∀ r, RT ds r → RtT c Q r) → Go c c.H0 t { nx := fun _ H' => Q .non H', rt := Q } (ds.map (Sl.val false) ++ List.replicate (N.length - ds.length) Sl.no)) :
    Cl P w K mg base CX0 (k + 1) x (spT K PP R RT) := by
  obtain ⟨f, fd, F, hm, b⟩ := D.ex
  refine ⟨f, fd, ps, F.ok S (fun vs H Q E h => ?_) (fun cdv A outer s H vs Q E hr h => ?_), hm, F.kp, b⟩
  · obtain ⟨ds, hd, hP, _⟩ := h
    rw [hd.length]; exact hlen _ hP
  · obtain ⟨t, h1, h2⟩ := hbody f cdv A outer s H E hr
    have hpl : ps.length ≤ N.length := by have := congrArg List.length S.pre; rw [List.length_take] at this; omega
    refine ⟨t, h1, ?_⟩
    obtain ⟨ds, hd, hP, kk, kt⟩ := h
    exact h2 Q ⟨H, fun a => H a = none, fun _ h => h⟩ ds hP (fun _ h => h) (fun r hR v H' e dd => kk r v H' hR e dd) (fun r hR p xs H' e hp at_ dd rn => kt r p xs H' hR e hp at_ dd rn) _ _ H H (Evl.Ex.refl _) (enter_sim hd (by rw [hd.length, hlen _ hP]; exact hpl))
end
end DL

end
section
set_option maxRecDepth 100000
set_option maxHeartbeats 4000000
/-! texts -/
namespace DL
open PySem PySem.Spec PyProof.Rows L2
section
variable {K : PySem.W.Frag} {c : Cq K} {B : Hp} {b : Bool} {ρ : Rho} {D : Ends} {ta tb te tl : TE} {z : Str} {i : Int} {g : TG} {tz : TS}
/-- for sign in text -/
theorem go_forS {t : TS} (h : Ev c b tl ρ (.str z)) (I : Nat → Rho → Prop) (h0 : I 0 ρ)
    (hs : ∀ (B' : Hp) (i n : Nat) (ρ1 : Rho), z.cps.toList[i]? = some n → I i ρ1 → ∃ js ρ2, TgOk c false g js ρ1 (.str ⟨#[n]⟩) ρ2 ∧ Go c B' t { D with nx := Pst c B' (I (i + 1)), ct := Pst c B' (I (i + 1)), bk := D.nx } ρ2)
    (hd : ∀ ρ1, I z.cps.toList.length ρ1 → Nx c B D ρ1) : Go c B (tFor (iStr tl) g t) D ρ := fun O σ F H e S => by
  refine h O σ F H S _ fun v F1 H1 e1 h1 S1 d1 => ?_
  cases d1
  have sz : z.cps.toList.length = z.cps.size := Array.length_toList
  refine ⟨z, rfl, fun i m σ' H' => m = z.cps.size - i ∧ i ≤ z.cps.size ∧ Pst c F1 (I i) σ' H', ⟨z.cps.size, by omega, Nat.zero_le _, O, F1, ρ, Evl.Ex.refl _, S1, h0⟩, ?_⟩
  rintro i m σ' H' ⟨rfl, hi, p⟩
  by_cases hlt : i < z.cps.size
  · refine .inr ⟨hlt, Pst c F1 (I (i + 1)), fun σ2 H2 p2 => ⟨z.cps.size - (i + 1), by omega, rfl, hlt, p2⟩, fun x H2 y => ?_⟩
    obtain ⟨rfl, n, hn, rfl⟩ := y
    obtain ⟨O', F', ρ1, e', S', iv⟩ := p
    obtain ⟨js, ρ2, tg, go⟩ := hs F1 i n ρ1 (by rw [Array.getElem?_toList]; exact hn) iv
    exact tg O' σ' F' H2 _ S' (.str _) _ fun σ2 _ _ S2 => go O' σ2 F' H2 e' S2
  · obtain ⟨O', F', ρ1, e', S', iv⟩ := p
    have : i = z.cps.toList.length := by omega
    rw [this] at iv
    exact .inl ⟨by show z.cps.size ≤ i; omega, hd ρ1 iv O' σ' F' H' (e.trans (e1.trans e')) S'⟩
theorem q_forS {t : TS} (h : Ev c b tl ρ (.str z)) (I : Nat → Rho → Prop) (h0 : I 0 ρ)
    (hs : ∀ (B' : Hp) (i n : Nat) (ρ1 : Rho), z.cps.toList[i]? = some n → I i ρ1 → ∃ js ρ2, TgOk c false g js ρ1 (.str ⟨#[n]⟩) ρ2 ∧ Go c B' t { D with nx := Pst c B' (I (i + 1)), ct := Pst c B' (I (i + 1)), bk := tz D } ρ2)
    (hd : ∀ ρ1, I z.cps.toList.length ρ1 → Go c B tz D ρ1) : Go c B (tSeq (tFor (iStr tl) g t) tz) D ρ := go_forS (D := { D with nx := tz D }) h I h0 hs hd
theorem ev_inSg {n : Nat} (ha : EvR c ta ρ (.str ⟨#[n]⟩)) (hb : EvR c tb ρ (.str z)) : Ev c b (tOp (fun x y H Q => ∃ (c : Nat) (z : Str), x = .str ⟨#[c]⟩ ∧ y = .str z ∧ Q (.bl (decide (c ∈ z.cps.toList))) H) ta tb) ρ (.bool (decide (n ∈ z.cps.toList))) := fun O σ F H S Q k =>
  ha O σ F H S _ fun v F1 H1 e1 h1 S1 d1 => hb O σ F1 H1 S1 _ fun w F2 H2 e2 h2 S2 d2 => by
    cases d1
    cases d2
    exact ⟨n, z, rfl, rfl, k _ F2 H2 (e1.trans e2) (h1.trans h2) S2 (.bl _)⟩
theorem ev_niSg {n : Nat} (ha : EvR c ta ρ (.str ⟨#[n]⟩)) (hb : EvR c tb ρ (.str z)) : Ev c b (tOp (fun x y H Q => ∃ (c : Nat) (z : Str), x = .str ⟨#[c]⟩ ∧ y = .str z ∧ Q (.bl (!decide (c ∈ z.cps.toList))) H) ta tb) ρ (.bool (!decide (n ∈ z.cps.toList))) := fun O σ F H S Q k =>
  ha O σ F H S _ fun v F1 H1 e1 h1 S1 d1 => hb O σ F1 H1 S1 _ fun w F2 H2 e2 h2 S2 d2 => by
    cases d1
    cases d2
    exact ⟨n, z, rfl, rfl, k _ F2 H2 (e1.trans e2) (h1.trans h2) S2 (.bl _)⟩
theorem ev_eqZ {x y : Str} (ha : EvR c ta ρ (.str x)) (hb : EvR c tb ρ (.str y)) : Ev c b (tOp rEq ta tb) ρ (.bool (decide (x = y))) := (ev_eq ha hb rfl).is (by show PyData.bool (x == y) = _; rw [Bool.beq_eq_decide_eq])
theorem ev_neZ {x y : Str} (ha : EvR c ta ρ (.str x)) (hb : EvR c tb ρ (.str y)) : Ev c b (tOp rNe ta tb) ρ (.bool (!decide (x = y))) := (ev_ne ha hb rfl).is (by show PyData.bool (!(x == y)) = _; rw [Bool.beq_eq_decide_eq])
/-- int(text) -/
theorem ev_intZ {n : Int} (ha : EvR c te ρ (.str z)) (hn : PySem.intText? z = some n) (hl : z.length ≤ 640) : Ev c b (tCB (fun xs H Q => ∃ a n, xs = [V.str a] ∧ PySem.intText? a = some n ∧ a.length ≤ 640 ∧ Q (.int n) H) (tCons te tNil)) ρ (.int n) := fun O σ F H S Q k =>
  ha O σ F H S _ fun v F1 H1 e1 h1 S1 d1 => by
    cases d1
    exact ⟨z, n, rfl, hn, hl, k _ F1 H1 e1 h1 S1 (.int _)⟩
/-- text.index(sign) -/
theorem ev_indexZ {y : Str} {n : Nat} {rest : List Nat} (ha : EvR c ta ρ (.str z)) (hb : EvR c tb ρ (.str y)) (ho : Builtin.Str.occurrences z y 0 z.length 1 = n :: rest) : Ev c b (tM1 (fun x xs H Q => ∃ a b i rest, x = .str a ∧ xs = [.str b] ∧ Builtin.Str.occurrences a b 0 a.length 1 = i :: rest ∧ Q (.int (i : Nat)) H) ta tb) ρ (.int (n : Int)) := fun O σ F H S Q k =>
  ha O σ F H S _ fun v F1 H1 e1 h1 S1 d1 => by
    cases d1
    refine ⟨⟨z, rfl⟩, hb O σ F1 H1 S1 _ fun w F2 H2 e2 h2 S2 d2 => ?_⟩
    cases d2
    exact ⟨z, y, n, rest, rfl, rfl, ho, k _ F2 H2 (e1.trans e2) (h1.trans h2) S2 (.int _)⟩
/-- text * int -/
def rRepS : R2 := fun x y H Q => ∃ z n, x = .str z ∧ y = .int n ∧ 1 ≤ n ∧ n ≤ 1000 ∧ z.length ≤ 1000 ∧ ∀ z' : Str, z'.length = z.length * n.toNat → z'.cps.toList = (List.replicate n.toNat z.cps.toList).flatten → Q (.str z') H
theorem rep_len (a : Array Nat) : ∀ (k : Nat) (acc : Array Nat), ((List.replicate k a).foldl (· ++ ·) acc).size = acc.size + k * a.size
  | 0, acc => by simp
  | k + 1, acc => by
    rw [List.replicate_succ, List.foldl_cons, rep_len a k, Array.size_append, Nat.succ_mul]
    omega
theorem rep_tl (a : Array Nat) : ∀ (k : Nat) (acc : Array Nat), ((List.replicate k a).foldl (· ++ ·) acc).toList = acc.toList ++ (List.replicate k a.toList).flatten
  | 0, acc => by simp
  | k + 1, acc => by
    rw [List.replicate_succ, List.foldl_cons, rep_tl a k, Array.toList_append, List.replicate_succ, List.flatten_cons, List.append_assoc]
theorem op_repS {X : Cx} : OpR X (binaryOp .Mult) rRepS := by
  intro pins s σ H x y v u Q I rx ry h
  obtain ⟨z, n, rfl, rfl, h1, h2, hz, q⟩ := h
  obtain ⟨t, rfl⟩ := rx
  obtain ⟨t', rfl⟩ := ry
  have lt : z.length * n.toNat ≤ 1000 * 1000 := Nat.mul_le_mul hz (by omega)
  refine PySem.P.mul_str ?_ (fun _ _ => ?_) (fun _ _ => ?_) ?_
  · rw [decide_eq_false (by omega), decide_eq_false (by omega)]
    rfl
  · have m : (z.length : Int) * n ≤ 1000 * 1000 := Int.mul_le_mul (by omega) h2 (by omega) (by decide)
    have : (z.length : Int) ≤ (2 ^ 63 - 1) / n := Int.le_ediv_of_mul_le (by omega) (by omega)
    omega
  · exact decide_eq_false (by rw [PySem.sizeLine_eq]; omega)
  · rw [if_neg (by omega)]
    have sz : (z.cps.size : Int) = z.length := rfl
    by_cases c : (n == 1 || z.length == 0) = true
    · rw [if_pos c]
      rw [Bool.or_eq_true] at c
      refine ⟨.str z, H, I, ⟨t, rfl⟩, q z ?_ ?_⟩
      · rcases c with c | c
        · have : n = 1 := by simpa using c
          rw [this]
          simp
        · have : z.length = 0 := by simpa using c
          rw [this]
          simp
      · rcases c with c | c
        · have : n = 1 := by simpa using c
          rw [this]
          simp
        · have : z.length = 0 := by simpa using c
          have e : z.cps.toList = [] := List.eq_nil_of_length_eq_zero (by rw [Array.length_toList]; exact this)
          rw [e]
          simp
    · rw [if_neg c]
      refine ⟨?_, .str _, H, I.tok _, ⟨_, rfl⟩, q _ ?_ ?_⟩
      · show ((List.replicate n.toNat z.cps).foldl (· ++ ·) #[]).size ≤ _
        rw [rep_len, PySem.sizeLine_eq]
        have : n.toNat * z.cps.size ≤ 1000 * 1000 := by rw [Nat.mul_comm]; exact lt
        simp
        omega
      · show ((List.replicate n.toNat z.cps).foldl (· ++ ·) #[]).size = _
        rw [rep_len, Nat.mul_comm z.length]
        simp [Str.length]
      · show ((List.replicate n.toNat z.cps).foldl (· ++ ·) #[]).toList = _
        rw [rep_tl]
        simp
/-- a text repeated -/
def repZ (z : Str) (n : Nat) : Str := ⟨(List.replicate n z.cps.toList).flatten.toArray⟩
theorem ev_repS {n : Nat} (ha : EvR c ta ρ (.str z)) (hb : EvR c tb ρ (.int (n : Int))) (h1 : 1 ≤ n) (h2 : n ≤ 1000) (hz : z.length ≤ 1000) : Ev c b (tOp rRepS ta tb) ρ (.str (repZ z n)) := fun O σ F H S Q k =>
  ha O σ F H S _ fun v F1 H1 e1 g1 S1 d1 => hb O σ F1 H1 S1 _ fun w F2 H2 e2 g2 S2 d2 => by
    cases d1
    cases d2
    refine ⟨z, n, rfl, rfl, by omega, by omega, hz, fun z' hl hc => ?_⟩
    have e : z' = repZ z n := TL.ext_tl (by show z'.cps.toList = (List.replicate n z.cps.toList).flatten; rw [hc, Int.toNat_natCast])
    rw [e]
    exact k _ F2 H2 (e1.trans e2) (g1.trans g2) S2 (.str _)
/-- text * int, of which only the length is told -/
theorem en_repS {n : Int} (ha : EvR c ta ρ (.str z)) (hb : EvR c tb ρ (.int n)) (h1 : 1 ≤ n) (h2 : n ≤ 1000) (hz : z.length ≤ 1000) : EvN c b (tOp rRepS ta tb) ρ (fun d => ∃ z' : Str, d = .str z' ∧ z'.length = z.length * n.toNat) := fun O σ F H S Q k =>
  ha O σ F H S _ fun v F1 H1 e1 g1 S1 d1 => hb O σ F1 H1 S1 _ fun w F2 H2 e2 g2 S2 d2 => by
    cases d1
    cases d2
    exact ⟨z, n, rfl, rfl, h1, h2, hz, fun z' hl _ => k _ _ F2 H2 ⟨z', rfl, hl⟩ (e1.trans e2) (g1.trans g2) S2 (.str _)⟩
/-- sep.join(texts), of which only the length is told, sep empty -/
theorem en_joinZ {PN : List Str → Prop} {m : Nat} {sep : Str} (hs : sep.cps = #[]) (ha : EvR c ta ρ (.str sep)) (hb : EvN c b tb ρ (fun d => ∃ ys : List Str, d = .list (ys.map PyData.str) ∧ PN ys)) (hl : ∀ ys, PN ys → ys.length ≤ m ∧ ∀ y ∈ ys, y.length ≤ 1) (hm : m ≤ 1000) : EvN c b (tM1 (rJoin K) ta tb) ρ (fun d => ∃ ys : List Str, PN ys ∧ d = .str (Txt.join ⟨#[]⟩ ys)) := fun O σ F H S Q k =>
  ha O σ F H S _ fun v F1 H1 e1 g1 S1 d1 => by
    cases sep with
    | mk cs =>
    have hs : cs = #[] := hs
    subst hs
    cases d1
    refine ⟨⟨_, rfl⟩, hb O σ F1 H1 S1 _ fun d w F2 H2 hd e2 g2 S2 d2 => ?_⟩
    obtain ⟨ys, rfl, pn⟩ := hd
    cases d2 with
    | lst r q =>
      have e := q.strs
      subst e
      obtain ⟨h1, h2⟩ := hl ys pn
      refine ⟨⟨#[]⟩, _, ys, rfl, rfl, .inl (dd_sq Cq.kl S2.ff r), ?_, k _ _ F2 H2 ⟨ys, pn, rfl⟩ (e1.trans e2) (g1.trans g2) S2 (.str _)⟩
      have sum : ∀ l : List Str, (∀ y ∈ l, y.length ≤ 1) → (l.map (·.length)).sum ≤ l.length := fun l h => by
        induction l with
        | nil => exact Nat.le_refl _
        | cons x r ih =>
          have a := h x List.mem_cons_self
          have b := ih fun y hy => h y (List.mem_cons_of_mem _ hy)
          simp only [List.map_cons, List.sum_cons, List.length_cons]
          omega
      have := sum ys h2
      have z0 : (⟨#[]⟩ : Str).length = 0 := rfl
      rw [z0]
      omega
theorem joinL_len : ∀ ys : List (List Nat), (∀ y ∈ ys, y.length ≤ 1) → (TL.joinL [] ys).length ≤ ys.length
  | [], _ => Nat.le_refl _
  | [p], h => h p List.mem_cons_self
  | p :: q :: r, h => by
    show (p ++ ([] ++ TL.joinL [] (q :: r))).length ≤ _
    rw [List.nil_append, List.length_append, List.length_cons]
    have a := h p List.mem_cons_self
    have b := joinL_len (q :: r) fun y hy => h y (List.mem_cons_of_mem _ hy)
    omega
theorem join_lenZ (ys : List Str) (h : ∀ y ∈ ys, y.length ≤ 1) : (Txt.join ⟨#[]⟩ ys).length ≤ ys.length := by
  have e1 : (ys.map fun y : Str => y.cps.toList).map SX.S = ys := by
    rw [List.map_map]
    refine List.ext_getElem? fun i => ?_
    rw [List.getElem?_map]
    cases ys[i]? with
    | none => rfl
    | some y => exact congrArg some (SX.S_tl y)
  have e2 := SX.join_S [] (ys.map fun y : Str => y.cps.toList)
  rw [e1] at e2
  rw [show (⟨#[]⟩ : Str) = SX.S [] from rfl, e2, SX.S_len]
  refine Nat.le_trans (joinL_len _ fun y hy => ?_) (by rw [List.length_map]; exact Nat.le_refl _)
  obtain ⟨z, hz, rfl⟩ := List.mem_map.mp hy
  have := h z hz
  rw [Array.length_toList]
  exact this
theorem len_num {n : Int} {k : Nat} (n0 : 0 ≤ n) (hk : 0 < k) (h : n < (10 : Int) ^ k) : 1 ≤ (Str.ofString (toString n)).length ∧ (Str.ofString (toString n)).length ≤ k := by
  obtain ⟨m, rfl⟩ := nat_of n0
  rw [SX.num_S, SX.S_len]
  have hm : m < 10 ^ k := by
    have : ((10 ^ k : Nat) : Int) = (10 : Int) ^ k := by simp
    omega
  exact ⟨List.length_pos_iff.mpr (TL.numL_ne m), TL.numL_len hk hm⟩
/-- all signs among these -/
def allZ (z s : Str) : Bool := z.cps.toList.all fun n => decide (n ∈ s.cps.toList)
theorem allZ_no {z s : Str} {i n : Nat} (h : z.cps.toList[i]? = some n) (hn : n ∉ s.cps.toList) : allZ z s = false := by
  unfold allZ
  rw [List.all_eq_false]
  exact ⟨n, List.mem_of_getElem? h, by simp [hn]⟩
theorem allZ_yes {z s : Str} (h : ∀ (i n : Nat), z.cps.toList[i]? = some n → n ∈ s.cps.toList) : allZ z s = true := by
  unfold allZ
  rw [List.all_eq_true]
  intro n hn
  obtain ⟨i, hi⟩ := List.getElem?_of_mem hn
  exact decide_eq_true (h i n hi)
theorem addZ_len (x y : Str) : (x ++ y).length = x.length + y.length := Array.size_append
theorem toL_len (x : Str) : x.cps.toList.length = x.length := Array.length_toList
def valZ (z : Str) : Int := ((NumText.digitsVal z.cps.toList : Nat) : Int)
end
end DL

end
section
set_option maxRecDepth 100000
set_option maxHeartbeats 2000000
/-! dicts with text keys, and instances, as data -/
namespace DL
open PySem PySem.Spec PyProof.Rows L2
/-- the pairs of a dict with text keys -/
def ScAll (m : Mode) (H : Hp) (kvs : List (Key × V)) (kd : List (Str × PyData)) : Prop := kvs.map (·.1) = kd.map (fun p => Sum.inr p.1) ∧ DdAll m H (kvs.map (·.2)) (kd.map (·.2))
/-! ### dicts with int keys -/
def sval {α : Type} (kd : List (Str × α)) (k : Str) : Option α := (kd.find? fun p => decide (p.1 = k)).map (·.2)
def sput {α : Type} (kd : List (Str × α)) (k : Str) (x : α) : List (Str × α) := if (kd.any fun p => decide (p.1 = k)) = true then kd.map (fun p => if p.1 = k then (p.1, x) else p) else kd ++ [(k, x)]
def sdicD (kd : List (Str × PyData)) : PyData := .dict (kd.map fun p => (.str p.1, p.2))
theorem sval_map {α β : Type} (f : α → β) (kd : List (Str × α)) (k : Str) : sval (kd.map fun p => (p.1, f p.2)) k = (sval kd k).map f := by
  unfold sval
  rw [List.find?_map]
  show ((kd.find? fun p => decide (p.1 = k)).map fun p => (p.1, f p.2)).map (·.2) = _
  cases kd.find? fun p => decide (p.1 = k) <;> rfl
theorem sput_map {α β : Type} (f : α → β) (kd : List (Str × α)) (k : Str) (x : α) : sput (kd.map fun p => (p.1, f p.2)) k (f x) = (sput kd k x).map fun p => (p.1, f p.2) := by
  unfold sput
  have e : ((kd.map fun p => (p.1, f p.2)).any fun p => decide (p.1 = k)) = kd.any fun p => decide (p.1 = k) := by rw [List.any_map]; rfl
  rw [e]
  split
  · rw [List.map_map, List.map_map]
    refine List.map_congr_left fun p _ => ?_
    show (if p.1 = k then (p.1, f x) else (p.1, f p.2)) = ((fun p : Str × α => (p.1, f p.2)) (if p.1 = k then (p.1, x) else p))
    split <;> rfl
  · rw [List.map_append]; rfl
theorem sval_cons {α : Type} {p : Str × α} {kd : List (Str × α)} {k : Str} : sval (p :: kd) k = if p.1 = k then some p.2 else sval kd k := by
  unfold sval
  rw [List.find?_cons]
  by_cases e : p.1 = k
  · rw [decide_eq_true e, if_pos e]; rfl
  · rw [decide_eq_false e, if_neg e]
theorem sval_any {α : Type} {k : Str} : ∀ {kd : List (Str × α)}, (kd.any fun p => decide (p.1 = k)) = (sval kd k).isSome
  | [] => rfl
  | p :: r => by
    rw [List.any_cons, sval_cons, sval_any (kd := r)]
    by_cases e : p.1 = k
    · rw [if_pos e, decide_eq_true e]; rfl
    · rw [if_neg e, decide_eq_false e, Bool.false_or]
theorem sval_put {α : Type} (kd : List (Str × α)) (k j : Str) (x : α) : sval (sput kd k x) j = if j = k then some x else sval kd j := by
  unfold sput
  split
  · rename_i h
    have g : ∀ kd : List (Str × α), (sval kd k).isSome = true ∨ j ≠ k → sval (kd.map (fun p => if p.1 = k then (p.1, x) else p)) j = if j = k then some x else sval kd j := by
      intro kd
      induction kd with
      | nil =>
        intro h
        rcases h with h | h
        · cases h
        · rw [if_neg h]; rfl
      | cons p r ih =>
        intro h
        rw [List.map_cons, sval_cons, sval_cons]
        by_cases e : p.1 = k
        · rw [if_pos e]
          by_cases e2 : p.1 = j
          · rw [if_pos e2, if_pos (e2.symm.trans e)]
          · have nk : j ≠ k := fun z => e2 (e.trans z.symm)
            rw [if_neg e2, if_neg e2, if_neg nk, ih (.inr nk), if_neg nk]
        · rw [if_neg e]
          by_cases e2 : p.1 = j
          · have nk : j ≠ k := fun z => e (e2.trans z)
            rw [if_pos e2, if_pos e2, if_neg nk]
          · rw [if_neg e2, if_neg e2]
            refine ih (h.imp (fun h => ?_) id)
            rw [sval_cons, if_neg e] at h
            exact h
    exact g kd (.inl (by rw [← sval_any]; exact h))
  · rename_i h
    have hn : sval kd k = none := by
      cases q : sval kd k with
      | none => rfl
      | some y => exact absurd (by rw [sval_any, q]; rfl) h
    have g : ∀ kd : List (Str × α), sval kd k = none → sval (kd ++ [(k, x)]) j = if j = k then some x else sval kd j := by
      intro kd
      induction kd with
      | nil =>
        intro _
        rw [List.nil_append, sval_cons]
        by_cases e : k = j
        · rw [if_pos e, if_pos e.symm]
        · rw [if_neg e, if_neg fun z => e z.symm]
      | cons p r ih =>
        intro h
        rw [sval_cons] at h
        split at h
        · cases h
        · rename_i e
          rw [List.cons_append, sval_cons, sval_cons, ih h]
          by_cases e2 : p.1 = j
          · rw [if_pos e2, if_pos e2, if_neg fun z => e (e2.trans z)]
          · rw [if_neg e2, if_neg e2]
    exact g kd hn
theorem sput_len {α : Type} (kd : List (Str × α)) (k : Str) (x : α) : (sput kd k x).length = if (sval kd k).isSome = true then kd.length else kd.length + 1 := by
  unfold sput
  rw [sval_any]
  split
  · rw [List.length_map]
  · rw [List.length_append]; rfl
section
variable {m : Mode} {H : Hp} {kvs : List (Key × V)} {kd : List (Str × PyData)} {k : Str}
theorem ScAll.cons_inv {p : Str × PyData} (h : ScAll m H kvs (p :: kd)) : ∃ v r, kvs = (Sum.inr p.1, v) :: r ∧ Dd m H v p.2 ∧ ScAll m H r kd := by
  obtain ⟨h1, h2⟩ := h
  cases kvs with
  | nil => cases h1
  | cons q r =>
    rw [List.map_cons, List.map_cons] at h1 h2
    cases h2 with
    | cons d dr =>
      injection h1 with e1 e2
      exact ⟨q.2, r, by rw [← e1], d, e2, dr⟩
theorem ScAll.nil_inv (h : ScAll m H kvs []) : kvs = [] := by
  obtain ⟨h1, h2⟩ := h
  cases kvs with
  | nil => rfl
  | cons q r => cases h1
theorem ScAll.len (h : ScAll m H kvs kd) : kvs.length = kd.length := by
  have := congrArg List.length h.1
  simpa using this
theorem ScAll.val : ∀ {kd : List (Str × PyData)} {kvs : List (Key × V)}, ScAll m H kvs kd → (∀ d, sval kd k = some d → ∃ v, valV kvs (Sum.inr k : Key) = some v ∧ Dd m H v d) ∧ (sval kd k = none → valV kvs (Sum.inr k : Key) = none)
  | [], kvs, h => by
    rw [h.nil_inv]
    exact ⟨fun d e => (by cases e), fun _ => rfl⟩
  | p :: kd, kvs, h => by
    obtain ⟨v, r, rfl, d, dr⟩ := h.cons_inv
    obtain ⟨i1, i2⟩ := ScAll.val dr
    by_cases e : p.1 = k
    · have q : valV ((Sum.inr p.1, v) :: r) (Sum.inr k : Key) = some v := valV_pos (p := ((Sum.inr p.1 : Key), v)) (show (Sum.inr p.1 : Key) = Sum.inr k by rw [e])
      refine ⟨fun d' hd => ?_, fun hn => ?_⟩
      · rw [sval_cons, if_pos e] at hd
        cases hd
        exact ⟨v, q, d⟩
      · rw [sval_cons, if_pos e] at hn; cases hn
    · have q : valV ((Sum.inr p.1, v) :: r) (Sum.inr k : Key) = valV r (Sum.inr k : Key) := valV_neg (p := ((Sum.inr p.1 : Key), v)) fun z => e (Sum.inr.inj z)
      rw [q, sval_cons, if_neg e]
      exact ⟨i1, i2⟩
theorem ScAll.isS (h : ScAll m H kvs kd) : (valV kvs (Sum.inr k : Key)).isSome = (sval kd k).isSome := by
  obtain ⟨i1, i2⟩ := h.val (k := k)
  cases e : sval kd k with
  | none => rw [i2 e]; rfl
  | some d =>
    obtain ⟨v, e2, _⟩ := i1 d e
    rw [e2]; rfl
theorem ScAll.put {v : V} {d : PyData} (h : ScAll m H kvs kd) (hd : Dd m H v d) : ScAll m H (putK kvs (Sum.inr k : Key) v) (sput kd k d) := by
  unfold putK sput
  rw [valV_any, h.isS, ← sval_any]
  split
  · have g : ∀ {kd : List (Str × PyData)} {kvs : List (Key × V)}, ScAll m H kvs kd → ScAll m H (kvs.map fun kv => if kv.1 = (Sum.inr k : Key) then (kv.1, v) else kv) (kd.map fun p => if p.1 = k then (p.1, d) else p) := by
      intro kd
      induction kd with
      | nil => intro kvs h; rw [h.nil_inv]; exact ⟨rfl, .nil⟩
      | cons p r ih =>
        intro kvs h
        obtain ⟨v', r', rfl, d', dr⟩ := h.cons_inv
        obtain ⟨i1, i2⟩ := ih dr
        rw [List.map_cons, List.map_cons]
        by_cases e : p.1 = k
        · rw [if_pos e, if_pos (show ((Sum.inr p.1 : Key), v').1 = Sum.inr k by rw [← e])]
          exact ⟨by rw [List.map_cons, List.map_cons, i1], by rw [List.map_cons, List.map_cons]; exact .cons hd i2⟩
        · rw [if_neg e, if_neg (show ¬ ((Sum.inr p.1 : Key), v').1 = Sum.inr k from fun z => e (Sum.inr.inj z))]
          exact ⟨by rw [List.map_cons, List.map_cons, i1], by rw [List.map_cons, List.map_cons]; exact .cons d' i2⟩
    exact g h
  · obtain ⟨h1, h2⟩ := h
    exact ⟨by rw [List.map_append, List.map_append, h1]; rfl, by rw [List.map_append, List.map_append]; exact h2.append (.one hd)⟩
theorem ScAll.mono {m' : Mode} {H' : Hp} (h : ScAll m H kvs kd) (g : ∀ {vs : List V} {ds : List PyData}, DdAll m H vs ds → DdAll m' H' vs ds) : ScAll m' H' kvs kd := ⟨h.1, g h.2⟩
theorem sdic_zip (kd : List (Str × PyData)) : (kd.map fun p => (PyData.str p.1, p.2)) = ((kd.map (·.1)).map PyData.str).zip (kd.map (·.2)) := by
  induction kd with
  | nil => rfl
  | cons p r ih => simp [ih]
theorem Dd.ofSdic {a : Addr} (p : m.P a) (r : Rd H a (.dK kvs)) (h : ScAll m H kvs kd) : Dd m H (.ref a) (sdicD kd) :=
  .dis (ks := kd.map (·.1)) (ds := kd.map (·.2)) p r (by rw [h.1, List.map_map]; rfl) (sdic_zip kd) (by simp) h.2
theorem sip_inj {ks : List Str} {ds : List PyData} : ∀ {kd : List (Str × PyData)} {ks : List Str} {ds : List PyData}, (kd.map fun p => (PyData.str p.1, p.2)) = (ks.map PyData.str).zip ds → ks.length = ds.length → kd.map (·.1) = ks ∧ kd.map (·.2) = ds
  | [], ks, ds, h, e => by
    cases ks with
    | nil => cases ds with
      | nil => exact ⟨rfl, rfl⟩
      | cons _ _ => cases e
    | cons _ _ => cases ds with
      | nil => cases e
      | cons _ _ => cases h
  | p :: r, ks, ds, h, e => by
    cases ks with
    | nil => cases h
    | cons k ks => cases ds with
      | nil => cases e
      | cons d ds =>
        rw [List.map_cons, List.map_cons, List.zip_cons_cons] at h
        injection h with h1 h2
        injection h1 with h3 h4
        injection h3 with h3
        obtain ⟨i1, i2⟩ := sip_inj (ks := ks) (ds := ds) h2 (by simpa using e)
        subst h3; subst h4
        exact ⟨by rw [List.map_cons, i1], by rw [List.map_cons, i2]⟩
theorem Dd.toSdic {v : V} (h : Dd m H v (sdicD kd)) : ∃ a kvs, v = .ref a ∧ m.P a ∧ Rd H a (.dK kvs) ∧ ScAll m H kvs kd := by
  unfold sdicD at h
  generalize e : (kd.map fun p => (PyData.str p.1, p.2)) = l at h
  cases h with
  | dis p r e1 e2 e3 q =>
    rw [e2] at e
    obtain ⟨i1, i2⟩ := sip_inj (ks := []) (ds := []) e e3
    refine ⟨_, _, rfl, p, r, ?_, by rw [i2]; exact q⟩
    rw [e1, ← i1, List.map_map]
    rfl
  | ins p r e2 q =>
    rw [e2] at e
    cases kd with
    | nil => cases e
    | cons x y => rw [List.map_cons] at e; injection e with e _; injection e with e _; cases e
  | dic p r e1 e2 e3 q =>
    rename_i a kvs ks ds
    rw [e2] at e
    cases kd with
    | nil =>
      cases ks with
      | nil => cases ds with
        | nil => exact ⟨_, _, rfl, p, r, e1, q⟩
        | cons _ _ => cases e3
      | cons _ _ => cases ds with
        | nil => cases e3
        | cons _ _ => cases e
    | cons x y =>
      cases ks with
      | nil => cases e
      | cons _ _ => cases ds with
        | nil => cases e3
        | cons _ _ => rw [List.map_cons, List.map_cons, List.zip_cons_cons] at e; injection e with e _; injection e with e _; cases e
end
/-! a key taken out -/
def sdrop {α : Type} (kd : List (Str × α)) (k : Str) : List (Str × α) := kd.filter fun p => decide (p.1 ≠ k)
theorem sdrop_map {α β : Type} (f : α → β) (kd : List (Str × α)) (k : Str) : sdrop (kd.map fun p => (p.1, f p.2)) k = (sdrop kd k).map fun p => (p.1, f p.2) := by
  unfold sdrop
  rw [List.filter_map]
  rfl
section
variable {m m' : Mode} {H H' : Hp} {kvs : List (Key × V)} {kd : List (Str × PyData)} {k : Str}
theorem ScAll.drop : ∀ {kd : List (Str × PyData)} {kvs : List (Key × V)}, ScAll m H kvs kd → ScAll m H (dropK kvs (Sum.inr k : Key)) (sdrop kd k)
  | [], kvs, h => by
    rw [h.nil_inv]
    exact ⟨rfl, .nil⟩
  | p :: kd, kvs, h => by
    obtain ⟨v, r, rfl, d, dr⟩ := h.cons_inv
    have i := ScAll.drop dr
    unfold dropK sdrop at i ⊢
    by_cases e : p.1 = k
    · rw [List.filter_cons_of_neg (by simp [e]), List.filter_cons_of_neg (by simp [e])]
      exact i
    · rw [List.filter_cons_of_pos (by simp [e]), List.filter_cons_of_pos (by simp [e])]
      obtain ⟨i1, i2⟩ := i
      exact ⟨by rw [List.map_cons, List.map_cons, i1], by rw [List.map_cons, List.map_cons]; exact .cons d i2⟩
end
/-! ### instances -/
def insD (C : Addr) (fd : List (Str × PyData)) : PyData := .dict ((.none, .int (C : Int)) :: fd.map fun p => (.str p.1, p.2))
section
variable {m m' : Mode} {H H' : Hp} {C a dx : Addr} {fd : List (Str × PyData)} {fs : List (Str × V)}
theorem Dd.ofIns (p : m.P a) (h : H a = some (.ins C dx fs)) (e : fs.map (·.1) = fd.map (·.1)) (q : DdAll m H (fs.map (·.2)) (fd.map (·.2))) : Dd m H (.ref a) (insD C fd) := by
  have z : (fd.map fun p => (PyData.str p.1, p.2)) = (fs.map fun p => PyData.str p.1).zip (fd.map (·.2)) := by
    rw [sdic_zip fd, ← e, List.map_map]
    rfl
  unfold insD
  rw [z]
  exact .ins p h rfl q
theorem Dd.toIns {v : V} (h : Dd m H v (insD C fd)) : ∃ a dx fs, v = .ref a ∧ m.P a ∧ H a = some (.ins C dx fs) ∧ fs.map (·.1) = fd.map (·.1) ∧ DdAll m H (fs.map (·.2)) (fd.map (·.2)) := by
  unfold insD at h
  generalize e : ((PyData.none, PyData.int (C : Int)) :: fd.map fun p => (PyData.str p.1, p.2)) = l at h
  cases h with
  | dic p r e1 e2 e3 q =>
    rename_i a kvs ks ds
    rw [e2] at e
    cases ks with
    | nil => cases e
    | cons _ _ => cases ds with
      | nil => cases e3
      | cons _ _ => rw [List.map_cons, List.zip_cons_cons] at e; injection e with e _; injection e with e _; cases e
  | dis p r e1 e2 e3 q =>
    rename_i a kvs ks ds
    rw [e2] at e
    cases ks with
    | nil => cases e
    | cons _ _ => cases ds with
      | nil => cases e3
      | cons _ _ => rw [List.map_cons, List.zip_cons_cons] at e; injection e with e _; injection e with e _; cases e
  | ins p r e2 q =>
    rename_i a C' dx fs ds
    rw [e2] at e
    injection e with e0 e
    injection e0 with _ e0
    injection e0 with e0
    cases Int.ofNat.inj e0
    have ln : (fs.map (·.1)).length = ds.length := by
      have := q.length
      rw [List.length_map] at this ⊢
      exact this
    obtain ⟨i1, i2⟩ := sip_inj (ks := []) (ds := []) (kd := fd) (by show _ = ((fs.map (·.1)).map PyData.str).zip ds; rw [e, List.map_map]; rfl) ln
    exact ⟨a, dx, fs, rfl, p, r, i1.symm, by rw [i2]; exact q⟩
theorem dd_lookup {f : Str} {d : PyData} : ∀ {fs : List (Str × V)} {fd : List (Str × PyData)}, fs.map (·.1) = fd.map (·.1) → DdAll m H (fs.map (·.2)) (fd.map (·.2)) → fd.lookup f = some d → ∃ v, fs.lookup f = some v ∧ Dd m H v d
  | [], [], _, _, h => by cases h
  | [], _ :: _, e, _, _ => by cases e
  | _ :: _, [], e, _, _ => by cases e
  | p :: fs, q :: fd, e, dd, h => by
    rw [List.map_cons, List.map_cons] at e dd
    injection e with e1 e2
    cases dd with
    | cons d1 dr =>
      rw [List.lookup_cons] at h ⊢
      rw [e1]
      split at h
      · cases h; exact ⟨_, rfl, d1⟩
      · exact dd_lookup e2 dr h
theorem no_lookup {f : Str} : ∀ {fs : List (Str × V)} {fd : List (Str × PyData)}, fs.map (·.1) = fd.map (·.1) → fd.lookup f = none → fs.lookup f = none
  | [], _, _, _ => rfl
  | _ :: _, [], e, _ => by cases e
  | p :: fs, q :: fd, e, h => by
    rw [List.map_cons, List.map_cons] at e
    injection e with e1 e2
    rw [List.lookup_cons] at h ⊢
    rw [e1]
    split at h
    · cases h
    · exact no_lookup e2 h
end
section
variable {K : PySem.W.Frag} {c : Cq K} {B : Hp} {b b' : Bool} {ρ ρ' : Rho} {D : Ends} {tz : TS} {te td ty tv ta tb : TE} {d : PyData} {ds : List PyData} {kd : List (Str × PyData)} {i j n : Nat} {k0 : Str} {C : Addr} {fd : List (Str × PyData)} {f : Str}
/-- e.f -/
theorem ev_fld (cl : L2.Cls K C) (na : L2.NoAttr K C f) (h : Ev c b te ρ (insD C fd)) (e : fd.lookup f = some d) : Ev c b (L2.tFld K te f) ρ d := fun O σ F H S Q q => h O σ F H S _ fun v F' H' e1 g1 S1 d1 => by
  obtain ⟨a, dx, fs, rfl, _, h1, h2, h3⟩ := d1.toIns
  obtain ⟨v, l1, l2⟩ := dd_lookup h2 h3 e
  exact ⟨a, C, dx, fs, v, rfl, S1.ff _ _ h1, cl, na, l1, q v F' H' e1 g1 S1 l2⟩
theorem er_fld (cl : L2.Cls K C) (na : L2.NoAttr K C f) (h : EvR c te ρ (insD C fd)) (e : fd.lookup f = some d) : EvR c (L2.tFld K te f) ρ d := fun O σ F H S Q q => h O σ F H S _ fun v F' H' e1 g1 S1 d1 => by
  obtain ⟨a, dx, fs, rfl, _, h1, h2, h3⟩ := d1.toIns
  obtain ⟨v, l1, l2⟩ := dd_lookup h2 h3 e
  exact ⟨a, C, dx, fs, v, rfl, h1, cl, na, l1, q v F' H' e1 g1 S1 l2⟩
/-- d[k], read or frozen -/
theorem er_sget (h : EvR c td ρ (sdicD kd)) (hk : EvR c ty ρ (.str k0)) (e : sval kd k0 = some d) : EvR c (tDGet td ty) ρ d := fun O σ F H S Q q =>
  h O σ F H S _ fun w0 F1 H1 e1 g1 S1 d1 => hk O σ F1 H1 S1 _ fun w F2 H2 e2 g2 S2 d2 => by
    obtain ⟨a, kvs, rfl, _, r1, dd⟩ := d1.toSdic
    cases d2
    obtain ⟨v, ev, dv⟩ := (dd.val (k := k0)).1 d e
    exact ⟨a, v, rfl, .inl ⟨kvs, Sum.inr k0, rd_ex g2 r1, rfl, ev.symm⟩, q v F2 H2 (e1.trans e2) (g1.trans g2) S2 (dv.ex g2)⟩
theorem ev_sget (h : Ev c b td ρ (sdicD kd)) (hk : EvR c ty ρ (.str k0)) (e : sval kd k0 = some d) : Ev c b (tDGet td ty) ρ d := fun O σ F H S Q q =>
  h O σ F H S _ fun w0 F1 H1 e1 g1 S1 d1 => hk O σ F1 H1 S1 _ fun w F2 H2 e2 g2 S2 d2 => by
    obtain ⟨a, kvs, rfl, _, r1, dd⟩ := d1.toSdic
    cases d2
    obtain ⟨v, ev, dv⟩ := (dd.val (k := k0)).1 d e
    exact ⟨a, v, rfl, .inl ⟨kvs, Sum.inr k0, rd_ex (e2.trans S2.ff) r1, rfl, ev.symm⟩, q v F2 H2 (e1.trans e2) (g1.trans g2) S2 (dv.ex e2)⟩
/-- k in d -/
theorem ev_sin (hk : EvR c ty ρ (.str k0)) (h : EvR c td ρ (sdicD kd)) : Ev c b (tDIn ty td) ρ (.bool (sval kd k0).isSome) := fun O σ F H S Q q =>
  hk O σ F H S _ fun w F1 H1 e1 g1 S1 d1 => h O σ F1 H1 S1 _ fun w0 F2 H2 e2 g2 S2 d2 => by
    obtain ⟨a, kvs, rfl, _, r2, dd⟩ := d2.toSdic
    cases d1
    refine ⟨a, _, rfl, .inl ⟨kvs, Sum.inr k0, r2, rfl, rfl⟩, ?_⟩
    rw [dd.isS]
    exact q _ F2 H2 (e1.trans e2) (g1.trans g2) S2 (.bl _)
theorem ev_snotin (hk : EvR c ty ρ (.str k0)) (h : EvR c td ρ (sdicD kd)) : Ev c b (tDNotIn ty td) ρ (.bool (!(sval kd k0).isSome)) := fun O σ F H S Q q =>
  hk O σ F H S _ fun w F1 H1 e1 g1 S1 d1 => h O σ F1 H1 S1 _ fun w0 F2 H2 e2 g2 S2 d2 => by
    obtain ⟨a, kvs, rfl, _, r2, dd⟩ := d2.toSdic
    cases d1
    refine ⟨a, _, rfl, .inl ⟨kvs, Sum.inr k0, r2, rfl, rfl⟩, ?_⟩
    rw [dd.isS]
    exact q _ F2 H2 (e1.trans e2) (g1.trans g2) S2 (.bl _)
/-- xs.index(y), texts -/
theorem ev_indexT {ns : List Str} {x : Str} {j0 : Nat} (h : EvR c te ρ (.list (ns.map PyData.str))) (hk : EvR c ty ρ (.str x)) (hj : ns[j0]? = some x) (hno : ∀ m : Nat, m < j0 → ns[m]? ≠ some x) : Ev c b (tBM K "list" (rIndex K) te (tCons ty tNil)) ρ (.int (j0 : Int)) := fun O σ F H S Q q =>
  h O σ F H S _ fun v F1 H1 e1 g1 S1 d1 => by
    cases d1 with
    | lst r dd =>
      have ee := dd.strs
      subst ee
      have sq := dd_sq (fun _ _ h => h) (Evl.Ex.refl H1) r
      refine ⟨.inl ⟨rfl, _, sq⟩, hk O σ F1 H1 S1 _ fun w F2 H2 e2 g2 S2 d2 => ?_⟩
      cases d2
      refine ⟨_, ns.map V.str, .str x, j0, .str x, rfl, rfl, sq_ex g2 sq, rfl, ?_, by rw [List.getElem?_map, hj]; rfl, ?_, fun m z' hm hz => ?_, q _ F2 H2 (e1.trans e2) (g1.trans g2) S2 (.int _)⟩
      · rw [List.all_map]
        exact List.all_eq_true.mpr fun _ _ => rfl
      · show (x == x) = true
        exact beq_self_eq_true x
      · rw [List.getElem?_map] at hz
        cases e : ns[m]? with
        | none => rw [e] at hz; cases hz
        | some y =>
          rw [e] at hz
          cases hz
          show (y == x) = false
          exact beq_eq_false_iff_ne.mpr fun z => hno m hm (by rw [e, z])
end
end DL

end
section
set_option maxRecDepth 100000
set_option maxHeartbeats 2000000
/-! a book: an instance with a list of names, a dict of rows, a list of pairs. As data (bkD), or owned by one slot (bookR) -/
namespace DL
open PySem PySem.Spec PyProof.Rows L2
structure Bk where
  names : List Str
  works : List (Str × (Int × Int × Int))
  pairs : List (Str × Str)
def prD (p : Str × Str) : PyData := .list [.str p.1, .str p.2]
def wkD (ws : List (Str × (Int × Int × Int))) : List (Str × PyData) := ws.map fun q => (q.1, wD q.2)
def bkF (B : Bk) : List (Str × PyData) := [("names", .list (B.names.map PyData.str)), ("works", sdicD (wkD B.works)), ("pairs", .list (B.pairs.map prD))]
def bkD (C : Addr) (B : Bk) : PyData := insD C (bkF B)
/-- what is asked of the class -/
structure BkC (K : PySem.W.Frag) (C : Addr) : Prop where
  cl : L2.Cls K C
  nn : L2.NoAttr K C "names"
  nw : L2.NoAttr K C "works"
  np : L2.NoAttr K C "pairs"
section
variable {K : PySem.W.Frag} {c : Cq K} {b : Bool} {ρ : Rho} {te : TE} {C : Addr} {B : Bk}
theorem ev_names (T : BkC K C) (h : Ev c b te ρ (bkD C B)) : Ev c b (L2.tFld K te "names") ρ (.list (B.names.map PyData.str)) := ev_fld T.cl T.nn h rfl
theorem er_names (T : BkC K C) (h : EvR c te ρ (bkD C B)) : EvR c (L2.tFld K te "names") ρ (.list (B.names.map PyData.str)) := er_fld T.cl T.nn h rfl
theorem ev_works (T : BkC K C) (h : Ev c b te ρ (bkD C B)) : Ev c b (L2.tFld K te "works") ρ (sdicD (wkD B.works)) := ev_fld T.cl T.nw h rfl
theorem er_works (T : BkC K C) (h : EvR c te ρ (bkD C B)) : EvR c (L2.tFld K te "works") ρ (sdicD (wkD B.works)) := er_fld T.cl T.nw h rfl
theorem ev_pairs (T : BkC K C) (h : Ev c b te ρ (bkD C B)) : Ev c b (L2.tFld K te "pairs") ρ (.list (B.pairs.map prD)) := ev_fld T.cl T.np h rfl
theorem er_pairs (T : BkC K C) (h : EvR c te ρ (bkD C B)) : EvR c (L2.tFld K te "pairs") ρ (.list (B.pairs.map prD)) := er_fld T.cl T.np h rfl
end
/-- where its changing parts stand; G: what it has thrown away; X: what is held beside it, with its contents -/
structure BkA where
  dx : Addr
  n : Addr
  w : Addr
  p : Addr
  G : Addr → Prop
  X : Addr → Prop
  HX : Hp
def anyM : Mode := only fun _ => True
def Five (a : Addr) (A : BkA) (x : Addr) : Prop := x = a ∨ x = A.dx ∨ x = A.n ∨ x = A.w ∨ x = A.p
def fldA (A : BkA) : List (Str × V) := [("names", .ref A.n), ("works", .ref A.w), ("pairs", .ref A.p)]
/-- the book's parts may move, what it held it holds -/
structure Grow (a : Addr) (A A' : BkA) : Prop where
  x : A'.X = A.X
  hx : A'.HX = A.HX
  z : ∀ x, Five a A x ∨ A.G x → Five a A' x ∨ A'.G x
theorem Grow.refl {a : Addr} (A : BkA) : Grow a A A := ⟨rfl, rfl, fun _ h => h⟩
theorem Grow.trans {a : Addr} {A A' A'' : BkA} (h : Grow a A A') (g : Grow a A' A'') : Grow a A A'' := ⟨g.x.trans h.x, g.hx.trans h.hx, fun x z => g.z x (h.z x z)⟩
theorem Grow.names {a : Addr} {A : BkA} (p : Addr) : Grow a A { A with n := p, G := fun x => A.G x ∨ x = A.n } := ⟨rfl, rfl, fun x z => by
  rcases z with (z | z | z | z) | z
  · exact .inl (.inl z)
  · exact .inl (.inr (.inl z))
  · exact .inr (.inr z)
  · exact .inl (.inr (.inr (.inr z)))
  · exact .inr (.inl z)⟩
theorem Grow.pairs {a : Addr} {A : BkA} (p : Addr) : Grow a A { A with p := p, G := fun x => A.G x ∨ x = A.p } := ⟨rfl, rfl, fun x z => by
  rcases z with (z | z | z | z | z) | z
  · exact .inl (.inl z)
  · exact .inl (.inr (.inl z))
  · exact .inl (.inr (.inr (.inl z)))
  · exact .inl (.inr (.inr (.inr (.inl z))))
  · exact .inr (.inr z)
  · exact .inr (.inl z)⟩
structure BkAt (C a : Addr) (A : BkA) (B : Bk) (F H : Hp) : Prop where
  ob : H a = some (.ins C A.dx (fldA A))
  od : H A.dx = some (.own a)
  nm : H A.n = some (.lst (B.names.map V.str))
  wk : ∃ kvs, H A.w = some (.dK kvs) ∧ ScAll anyM F kvs (wkD B.works)
  pr : ∃ qs, H A.p = some (.lst qs) ∧ DdAll anyM F qs (B.pairs.map prD)
  nd : [a, A.dx, A.n, A.w, A.p].Nodup
  fr : ∀ x, A.X x → H x = A.HX x ∧ ¬ (Five a A x ∨ A.G x)
def bkZ (a : Addr) (A : BkA) (x : Addr) : Prop := Five a A x ∨ A.G x ∨ A.X x
theorem BkAt.stay {C a : Addr} {A : BkA} {B : Bk} {F H F' H' : Hp} (h : BkAt C a A B F H) (ef : Ex F F') (hz : ∀ x, bkZ a A x → H' x = H x) : BkAt C a A B F' H' := by
  obtain ⟨h1, h2, h3, ⟨kvs, h4, h5⟩, ⟨qs, h6, h7⟩, h8, h9⟩ := h
  exact ⟨by rw [hz a (.inl (.inl rfl))]; exact h1, by rw [hz A.dx (.inl (.inr (.inl rfl)))]; exact h2, by rw [hz A.n (.inl (.inr (.inr (.inl rfl))))]; exact h3,
    ⟨kvs, by rw [hz A.w (.inl (.inr (.inr (.inr (.inl rfl)))))]; exact h4, h5.mono fun x => x.ex ef⟩, ⟨qs, by rw [hz A.p (.inl (.inr (.inr (.inr (.inr rfl)))))]; exact h6, h7.ex ef⟩, h8, fun x hx => ⟨by rw [hz x (.inr (.inr hx))]; exact (h9 x hx).1, (h9 x hx).2⟩⟩
def bookR (C a : Addr) (A : BkA) (B : Bk) : Res where
  Z := bkZ a A
  ph := BkAt C a A B
  stay := fun F H F' H' h ef hz => h.stay ef hz
theorem any_t1 {K : PySem.W.Frag} {F H : Hp} (e : Ex F H) {v : V} {d : PyData} (h : Dd anyM F v d) : Dd (T1 K) H v d := h.up ⟨fun _ _ => trivial, fun _ _ (z : False) => z.elim⟩ e
theorem all_t1 {K : PySem.W.Frag} {F H : Hp} (e : Ex F H) {vs : List V} {ds : List PyData} (h : DdAll anyM F vs ds) : DdAll (T1 K) H vs ds := h.up ⟨fun _ _ => trivial, fun _ _ (z : False) => z.elim⟩ e
theorem BkAt.data {C a : Addr} {A : BkA} {B : Bk} {F H : Hp} (h : BkAt C a A B F H) (e : Ex F H) : Dd anyM H (.ref a) (bkD C B) := by
  obtain ⟨kvs, h4, h5⟩ := h.wk
  obtain ⟨qs, h6, h7⟩ := h.pr
  exact .ofIns trivial h.ob rfl (.cons (.lst (.inl ⟨trivial, .inl h.nm⟩) (DdAll.ofStrs _)) (.cons (.ofSdic trivial (.inl h4) (h5.mono fun x => x.ex e)) (.cons (.lst (.inl ⟨trivial, .inl h6⟩) (h7.ex e)) .nil)))
theorem ne5 {a b c d e : Addr} (h : [a, b, c, d, e].Nodup) : (a ≠ b ∧ a ≠ c ∧ a ≠ d ∧ a ≠ e) ∧ (b ≠ c ∧ b ≠ d ∧ b ≠ e) ∧ (c ≠ d ∧ c ≠ e) ∧ d ≠ e := by
  simp only [List.nodup_cons, List.mem_cons, List.not_mem_nil, or_false, not_or, not_false_eq_true, List.nodup_nil, and_true] at h
  exact ⟨⟨h.1.1, h.1.2.1, h.1.2.2.1, h.1.2.2.2⟩, ⟨h.2.1.1, h.2.1.2.1, h.2.1.2.2⟩, ⟨h.2.2.1.1, h.2.2.1.2⟩, h.2.2.2⟩
theorem to5 {a b c d e : Addr} (h : (a ≠ b ∧ a ≠ c ∧ a ≠ d ∧ a ≠ e) ∧ (b ≠ c ∧ b ≠ d ∧ b ≠ e) ∧ (c ≠ d ∧ c ≠ e) ∧ d ≠ e) : [a, b, c, d, e].Nodup := by
  simp only [List.nodup_cons, List.mem_cons, List.not_mem_nil, or_false, not_or, not_false_eq_true, List.nodup_nil, and_true]
  exact ⟨⟨h.1.1, h.1.2.1, h.1.2.2.1, h.1.2.2.2⟩, ⟨h.2.1.1, h.2.1.2.1, h.2.1.2.2⟩, ⟨h.2.2.1.1, h.2.2.1.2⟩, h.2.2.2⟩
section
variable {K : PySem.W.Frag} {c : Cq K} {ρ : Rho} {C a : Addr} {A : BkA} {B : Bk} {i : Nat}
/-- the slot of a book -/
abbrev Sl.bk (C a : Addr) (A : BkA) (B : Bk) : Sl := .res (.ref a) (bookR C a A B)
/-- read as data -/
def EvRa {K : PySem.W.Frag} (c : Cq K) (te : TE) (ρ : Rho) (d : PyData) : Prop := ∀ (O : Addr → Prop) (σ : St) (F H : Hp), Sim c O ρ σ F H → ∀ Q : VK, (∀ v F' H', Ex F F' → Ex H H' → Sim c O ρ σ F' H' → Dd anyM H' v d → Q v H') → te σ H Q
theorem EvRa.r {te : TE} {d : PyData} (h : EvRa c te ρ d) : EvR c te ρ d := fun O σ F H S Q q => h O σ F H S Q fun v F' H' e1 e2 S' dd => q v F' H' e1 e2 S' (any_t1 (Evl.Ex.refl _) dd)
theorem Ev.ra {te : TE} {d : PyData} (h : Ev c true te ρ d) : EvRa c te ρ d := fun O σ F H S Q q => h O σ F H S Q fun v F' H' e1 e2 S' dd => q v F' H' e1 e2 S' (dd.up ⟨fun _ _ => trivial, fun _ _ (z : False) => z.elim⟩ S'.ff)
theorem ea_book (h : ρ[i]? = some (.bk C a A B)) : EvRa c (tVar i) ρ (bkD C B) := fun O σ F H S Q q => by
  obtain ⟨o, ho, e, _, hp⟩ := S.get h
  exact ⟨_, by rw [ho, e], q _ F H (Evl.Ex.refl _) (Evl.Ex.refl _) S (hp.data S.ff)⟩
theorem er_book (h : ρ[i]? = some (.bk C a A B)) : EvR c (tVar i) ρ (bkD C B) := (ea_book h).r
/-- its lists, to be walked -/
theorem ee_names {b : Bool} (T : BkC K C) (h : ρ[i]? = some (.bk C a A B)) : EvE c b (L2.tFld K (tVar i) "names") ρ (B.names.map PyData.str) := fun O σ F H S Q q => by
  obtain ⟨o, ho, e, _, hp⟩ := S.get h
  exact ⟨_, by rw [ho, e], a, C, A.dx, _, .ref A.n, rfl, hp.ob, T.cl, T.nn, rfl, q _ _ F H (Evl.Ex.refl _) (Evl.Ex.refl _) S (.inl (.inl hp.nm)) (DdAll.ofStrs _)⟩
theorem ee_pairs (hn : ∀ x, c.NW x) (T : BkC K C) (h : ρ[i]? = some (.bk C a A B)) : EvE c true (L2.tFld K (tVar i) "pairs") ρ (B.pairs.map prD) := fun O σ F H S Q q => by
  obtain ⟨o, ho, e, _, hp⟩ := S.get h
  obtain ⟨qs, h6, h7⟩ := hp.pr
  exact ⟨_, by rw [ho, e], a, C, A.dx, _, .ref A.p, rfl, hp.ob, T.cl, T.np, rfl, q _ _ F H (Evl.Ex.refl _) (Evl.Ex.refl _) S (.inl (.inl h6)) (h7.up ⟨fun x _ => hn x, fun _ _ (z : False) => z.elim⟩ (Evl.Ex.refl _))⟩
/-- a slot's part of the heap is written, and it takes what no slot has -/
theorem Sim.takeS {O : Addr → Prop} {σ : St} {F H H' : Hp} {s s' : Sl} {o : Option V} (S : Sim c O ρ σ F H) (h : ρ[i]? = some s) (ho : σ[i]? = some o) (hH : ∀ x, ¬ s.Owns o x → H' x = H x) (hn : ∀ x, H x ≠ none → H' x ≠ none) (x : SlOk c F H' s' o) (hO : ∀ x, s'.Owns o x → s.Owns o x ∨ NotOwn ρ σ x) : Sim c O (ρ.set i s') σ F H' := by
  have il := (List.getElem?_eq_some_iff.mp h).1
  have S1 := S.writeS (s' := .no) h ho (fun a z => (show False from z).elim) hH hn trivial
  have S2 := S1.setS (j := i) (s := s') (o := o) x fun y oy j t p h1 h2 z => by
    rw [List.getElem?_set] at h1
    by_cases e : i = j
    · rw [if_pos e, if_pos il] at h1
      cases h1
      exact z
    · rw [if_neg e] at h1
      rcases hO y oy with q | q
      · exact e (S.apart i j s t o p y h h1 ho h2 q z)
      · exact q j t p h1 h2 z
  rw [List.set_set] at S2
  have es : σ.set i o = σ := by
    refine List.ext_getElem? fun k => ?_
    rw [List.getElem?_set]
    by_cases e : i = k
    · subst e
      rw [if_pos rfl, if_pos (by rw [S.len]; exact il), ho]
    · rw [if_neg e]
  rw [es] at S2
  exact S2
/-- one of the book's parts is written -/
theorem Sim.bookW {O : Addr → Prop} {σ : St} {F H H' : Hp} {A' : BkA} {B' : Bk} (S : Sim c O ρ σ F H) (h : ρ[i]? = some (.bk C a A B)) (hH : ∀ x, ¬ Five a A x → H' x = H x) (hn : ∀ x, H x ≠ none → H' x ≠ none) (x : BkAt C a A' B' F H') (hO : ∀ x, bkZ a A' x → bkZ a A x ∨ NotOwn ρ σ x ∧ F x = none ∧ H x ≠ none) : Sim c O (ρ.set i (.bk C a A' B')) σ F H' := by
  obtain ⟨o, ho, e, ow, hp⟩ := S.get h
  refine S.takeS h ho (fun y z => hH y fun q => z (.inl q)) hn ⟨e, fun y z => ?_, x⟩ fun y z => (hO y z).imp id fun q => q.1
  rcases hO y z with q | q
  · exact ⟨(ow y q).1, hn y (ow y q).2⟩
  · exact ⟨q.2.1, hn y q.2.2⟩
theorem hn_upd {H : Hp} {y : Addr} {u : HO} : ∀ x, H x ≠ none → upd H y u x ≠ none := fun x z => by
  by_cases w : x = y
  · rw [w, upd_same]; simp
  · rw [upd_ne w]; exact z
variable {B0 : Hp} {D : Ends} {tv : TE} {b : Bool} {ns : List Str} {ps : List (Str × Str)} {tz : TS}
/-- self.names = a new list -/
theorem go_stNames (T : BkC K C) (h : ρ[i]? = some (.bk C a A B)) (hv : EvL c b tv ρ (ns.map PyData.str)) (k : ∀ A', Grow a A A' → Nx c B0 D (ρ.set i (.bk C a A' { B with names := ns }))) : Go c B0 (L2.sFld K (tVar i) tv "names") D ρ := fun O σ F H e S => by
  refine hv O σ F H S _ fun p xs F1 H1 e1 h1 S1 hp fp at_ no dd => ?_
  have ex := dd.strs
  subst ex
  obtain ⟨o0, ho0, e0, ow0, _⟩ := S.get h
  obtain ⟨o, ho, eo, ow, q⟩ := S1.get h
  have np : ∀ x, bkZ a A x → x ≠ p := fun x z w => (ow0 x z).2 (by rw [w]; exact hp)
  have na' : a ≠ p := np a (.inl (.inl rfl))
  have nd := ne5 q.nd
  refine ⟨.ref a, by rw [ho, eo], a, C, A.dx, _, rfl, q.ob, T.cl, T.nn, Nat.le_of_ble_eq_true rfl, ?_⟩
  have hw : ∀ x, x ≠ a → upd H1 a (.ins C A.dx (L2.putF "names" (.ref p) (fldA A))) x = H1 x := fun x z => upd_ne z
  refine k { A with n := p, G := fun x => A.G x ∨ x = A.n } (Grow.names p) O σ F1 _ (e.trans e1) (S1.bookW h (fun x z => hw x fun w => z (.inl w)) hn_upd ?_ fun x z => ?_)
  · obtain ⟨kvs, r1, r2⟩ := q.wk
    obtain ⟨qs, r3, r4⟩ := q.pr
    refine ⟨by rw [upd_same]; rfl, by rw [hw _ nd.1.1.symm]; exact q.od, by show upd H1 a _ p = _; rw [hw _ na'.symm]; exact at_, ⟨kvs, by rw [hw _ nd.1.2.2.1.symm]; exact r1, r2⟩, ⟨qs, by rw [hw _ nd.1.2.2.2.symm]; exact r3, r4⟩, to5 ⟨⟨nd.1.1, na', nd.1.2.2⟩, ⟨np _ (.inl (.inr (.inl rfl))), nd.2.1.2⟩, ⟨(np _ (.inl (.inr (.inr (.inr (.inl rfl)))))).symm, (np _ (.inl (.inr (.inr (.inr (.inr rfl)))))).symm⟩, nd.2.2.2⟩, fun x hx => ?_⟩
    obtain ⟨f1, f2⟩ := q.fr x hx
    refine ⟨by rw [hw _ fun w => f2 (.inl (.inl w))]; exact f1, fun z => ?_⟩
    rcases z with (z | z | z | z) | z | z
    · exact f2 (.inl (.inl z))
    · exact f2 (.inl (.inr (.inl z)))
    · exact np x (.inr (.inr hx)) z
    · exact f2 (.inl (.inr (.inr (.inr z))))
    · exact f2 (.inr z)
    · exact f2 (.inl (.inr (.inr (.inl z))))
  · rcases z with (z | z | z | z) | (z | z) | z
    · exact .inl (.inl (.inl z))
    · exact .inl (.inl (.inr (.inl z)))
    · rw [show x = p from z]
      exact .inr ⟨no, fp, by rw [at_]; simp⟩
    · exact .inl (.inl (.inr (.inr (.inr z))))
    · exact .inl (.inr (.inl z))
    · exact .inl (.inl (.inr (.inr (.inl z))))
    · exact .inl (.inr (.inr z))
/-- self.pairs = a new list -/
theorem go_stPairs (hc : ∀ x, c.NW x) (T : BkC K C) (h : ρ[i]? = some (.bk C a A B)) (hv : EvL c true tv ρ (ps.map prD)) (k : ∀ A', Grow a A A' → Nx c B0 D (ρ.set i (.bk C a A' { B with pairs := ps }))) : Go c B0 (L2.sFld K (tVar i) tv "pairs") D ρ := fun O σ F H e S => by
  refine hv O σ F H S _ fun p xs F1 H1 e1 h1 S1 hp fp at_ no dd => ?_
  obtain ⟨o0, ho0, e0, ow0, _⟩ := S.get h
  obtain ⟨o, ho, eo, ow, q⟩ := S1.get h
  have np : ∀ x, bkZ a A x → x ≠ p := fun x z w => (ow0 x z).2 (by rw [w]; exact hp)
  have na' : a ≠ p := np a (.inl (.inl rfl))
  have nd := ne5 q.nd
  refine ⟨.ref a, by rw [ho, eo], a, C, A.dx, _, rfl, q.ob, T.cl, T.np, Nat.le_of_ble_eq_true rfl, ?_⟩
  have hw : ∀ x, x ≠ a → upd H1 a (.ins C A.dx (L2.putF "pairs" (.ref p) (fldA A))) x = H1 x := fun x z => upd_ne z
  refine k { A with p := p, G := fun x => A.G x ∨ x = A.p } (Grow.pairs p) O σ F1 _ (e.trans e1) (S1.bookW h (fun x z => hw x fun w => z (.inl w)) hn_upd ?_ fun x z => ?_)
  · obtain ⟨kvs, r1, r2⟩ := q.wk
    refine ⟨by rw [upd_same]; rfl, by rw [hw _ nd.1.1.symm]; exact q.od, by rw [hw _ nd.1.2.1.symm]; exact q.nm, ⟨kvs, by rw [hw _ nd.1.2.2.1.symm]; exact r1, r2⟩, ⟨xs, by show upd H1 a _ p = _; rw [hw _ na'.symm]; exact at_, dd.up ⟨fun _ _ => trivial, fun _ _ (z : False) => z.elim⟩ (Evl.Ex.refl _)⟩, to5 ⟨⟨nd.1.1, nd.1.2.1, nd.1.2.2.1, na'⟩, ⟨nd.2.1.1, nd.2.1.2.1, np _ (.inl (.inr (.inl rfl)))⟩, ⟨nd.2.2.1.1, np _ (.inl (.inr (.inr (.inl rfl))))⟩, np _ (.inl (.inr (.inr (.inr (.inl rfl)))))⟩, fun x hx => ?_⟩
    obtain ⟨f1, f2⟩ := q.fr x hx
    refine ⟨by rw [hw _ fun w => f2 (.inl (.inl w))]; exact f1, fun z => ?_⟩
    rcases z with (z | z | z | z | z) | z | z
    · exact f2 (.inl (.inl z))
    · exact f2 (.inl (.inr (.inl z)))
    · exact f2 (.inl (.inr (.inr (.inl z))))
    · exact f2 (.inl (.inr (.inr (.inr (.inl z)))))
    · exact np x (.inr (.inr hx)) z
    · exact f2 (.inr z)
    · exact f2 (.inl (.inr (.inr (.inr (.inr z)))))
  · rcases z with (z | z | z | z | z) | (z | z) | z
    · exact .inl (.inl (.inl z))
    · exact .inl (.inl (.inr (.inl z)))
    · exact .inl (.inl (.inr (.inr (.inl z))))
    · exact .inl (.inl (.inr (.inr (.inr (.inl z)))))
    · rw [show x = p from z]
      exact .inr ⟨no, fp, by rw [at_]; simp⟩
    · exact .inl (.inr (.inl z))
    · exact .inl (.inl (.inr (.inr (.inr (.inr z)))))
    · exact .inl (.inr (.inr z))
variable {te ty : TE} {y x : Str} {pr : Str × Str} {w : Int × Int × Int}
/-- one of the four lists is written in its place -/
theorem BkAt.setN {F H : Hp} {xs : List V} (q : BkAt C a A B F H) (e : xs = ns.map V.str) : BkAt C a A { B with names := ns } F (upd H A.n (.lst xs)) := by
  subst e
  have nd := ne5 q.nd
  obtain ⟨kvs, r1, r2⟩ := q.wk
  obtain ⟨qs, r3, r4⟩ := q.pr
  exact ⟨by rw [upd_ne nd.1.2.1]; exact q.ob, by rw [upd_ne nd.2.1.1]; exact q.od, upd_same, ⟨kvs, by rw [upd_ne nd.2.2.1.1.symm]; exact r1, r2⟩, ⟨qs, by rw [upd_ne nd.2.2.1.2.symm]; exact r3, r4⟩, q.nd, fun x hx => ⟨by rw [upd_ne fun z => (q.fr x hx).2 (.inl (.inr (.inr (.inl z))))]; exact (q.fr x hx).1, (q.fr x hx).2⟩⟩
theorem BkAt.setP {F H : Hp} {xs : List V} (q : BkAt C a A B F H) (d : DdAll anyM F xs (ps.map prD)) : BkAt C a A { B with pairs := ps } F (upd H A.p (.lst xs)) := by
  have nd := ne5 q.nd
  obtain ⟨kvs, r1, r2⟩ := q.wk
  exact ⟨by rw [upd_ne nd.1.2.2.2]; exact q.ob, by rw [upd_ne nd.2.1.2.2]; exact q.od, by rw [upd_ne nd.2.2.1.2]; exact q.nm, ⟨kvs, by rw [upd_ne nd.2.2.2]; exact r1, r2⟩, ⟨xs, upd_same, d⟩, q.nd, fun x hx => ⟨by rw [upd_ne fun z => (q.fr x hx).2 (.inl (.inr (.inr (.inr (.inr z)))))]; exact (q.fr x hx).1, (q.fr x hx).2⟩⟩
theorem BkAt.setW {F H : Hp} {kvs : List (Key × V)} {ws : List (Str × (Int × Int × Int))} (q : BkAt C a A B F H) (d : ScAll anyM F kvs (wkD ws)) : BkAt C a A { B with works := ws } F (upd H A.w (.dK kvs)) := by
  have nd := ne5 q.nd
  obtain ⟨qs, r3, r4⟩ := q.pr
  exact ⟨by rw [upd_ne nd.1.2.2.1]; exact q.ob, by rw [upd_ne nd.2.1.2.1]; exact q.od, by rw [upd_ne nd.2.2.1.1]; exact q.nm, ⟨kvs, upd_same, d⟩, ⟨qs, by rw [upd_ne nd.2.2.2.symm]; exact r3, r4⟩, q.nd, fun x hx => ⟨by rw [upd_ne fun z => (q.fr x hx).2 (.inl (.inr (.inr (.inr (.inl z)))))]; exact (q.fr x hx).1, (q.fr x hx).2⟩⟩
theorem Sim.bookU {O : Addr → Prop} {σ : St} {F H : Hp} {B' : Bk} {y : Addr} {u : HO} (S : Sim c O ρ σ F H) (h : ρ[i]? = some (.bk C a A B)) (hy : Five a A y) (x : BkAt C a A B' F (upd H y u)) : Sim c O (ρ.set i (.bk C a A B')) σ F (upd H y u) :=
  S.bookW h (fun x z => upd_ne fun w => z (by rw [w]; exact hy)) hn_upd x fun x z => .inl z
/-- self.names.append(name) -/
theorem go_appNames (T : BkC K C) (h : ρ[i]? = some (.bk C a A B)) (hd : Ev c b te ρ (.str y)) (hz : B.names.length < 100000) (k : Nx c B0 D (ρ.set i (.bk C a A { B with names := B.names ++ [y] }))) : Go c B0 (tDrop (tBM K "list" rAppend (L2.tFld K (tVar i) "names") (tCons te tNil))) D ρ := fun O σ F H e S => by
  obtain ⟨o, ho, eo, _, q⟩ := S.get h
  refine ⟨_, by rw [ho, eo], a, C, A.dx, _, .ref A.n, rfl, q.ob, T.cl, T.nn, rfl, .inl ⟨rfl, _, .inl (.inl q.nm)⟩, hd O σ F H S _ fun v F1 H1 e1 g1 S1 d1 => ?_⟩
  cases d1
  obtain ⟨o', ho', _, ow, p⟩ := S1.get h
  exact ⟨A.n, B.names.map V.str, .str y, rfl, rfl, p.nm, Evl.sz_lt (by rw [List.length_map]; exact hz), k O σ F1 _ (e.trans e1) (S1.bookU h (.inr (.inr (.inl rfl))) (p.setN (by rw [List.map_append]; rfl)))⟩
/-- self.pairs.append([one, other]) -/
theorem go_appPairs (T : BkC K C) (h : ρ[i]? = some (.bk C a A B)) (hd : Ev c true te ρ (prD pr)) (hz : B.pairs.length < 100000) (k : Nx c B0 D (ρ.set i (.bk C a A { B with pairs := B.pairs ++ [pr] }))) : Go c B0 (tDrop (tBM K "list" rAppend (L2.tFld K (tVar i) "pairs") (tCons te tNil))) D ρ := fun O σ F H e S => by
  obtain ⟨o, ho, eo, _, q⟩ := S.get h
  obtain ⟨xs, q5, _⟩ := q.pr
  refine ⟨_, by rw [ho, eo], a, C, A.dx, _, .ref A.p, rfl, q.ob, T.cl, T.np, rfl, .inl ⟨rfl, _, .inl (.inl q5)⟩, hd O σ F H S _ fun v F1 H1 e1 g1 S1 d1 => ?_⟩
  obtain ⟨o', ho', _, ow, p⟩ := S1.get h
  obtain ⟨qs, r3, r4⟩ := p.pr
  exact ⟨A.p, qs, v, rfl, rfl, r3, Evl.sz_lt (by rw [r4.length, List.length_map]; exact hz), k O σ F1 _ (e.trans e1) (S1.bookU h (.inr (.inr (.inr (.inr rfl)))) (p.setP (by rw [List.map_append]; exact r4.append (.one (d1.up ⟨fun _ _ => trivial, fun _ _ (z : False) => z.elim⟩ (Evl.Ex.refl _))))))⟩
/-- self.works[name] = work -/
theorem go_putWorks (T : BkC K C) (h : ρ[i]? = some (.bk C a A B)) (hv : Ev c true tv ρ (wD w)) (hk : EvR c ty ρ (.str x)) (hz : B.works.length < 100000) (k : Nx c B0 D (ρ.set i (.bk C a A { B with works := sput B.works x w }))) : Go c B0 (L2.sDPut (L2.tFld K (tVar i) "works") ty tv) D ρ := fun O σ F H e S =>
  hv O σ F H S _ fun v F1 H1 e1 g1 S1 d1 => by
    obtain ⟨o, ho, eo, _, q⟩ := S1.get h
    refine ⟨_, by rw [ho, eo], a, C, A.dx, _, .ref A.w, rfl, q.ob, T.cl, T.nw, rfl, hk O σ F1 H1 S1 _ fun w' F2 H2 e2 g2 S2 d2 => ?_⟩
    cases d2
    obtain ⟨o', ho', _, ow, p⟩ := S2.get h
    obtain ⟨kvs, r1, r2⟩ := p.wk
    have dv : Dd anyM F2 v (wD w) := (d1.ex e2).up ⟨fun _ _ => trivial, fun _ _ (z : False) => z.elim⟩ (Evl.Ex.refl _)
    have ln := r2.len
    unfold wkD at ln
    rw [List.length_map] at ln
    refine ⟨A.w, _, rfl, .inl ⟨kvs, Sum.inr x, r1, rfl, Evl.sz_lt (by rw [ln]; exact hz), rfl⟩, k O σ F2 _ (e.trans (e1.trans e2)) (S2.bookU h (.inr (.inr (.inr (.inl rfl)))) (p.setW ?_))⟩
    have := r2.put (k := x) dv
    unfold wkD at this ⊢
    rw [sput_map] at this
    exact this
/-- self.works.pop(name), the row of no use -/
theorem go_popWorks (T : BkC K C) (h : ρ[i]? = some (.bk C a A B)) (hk : EvR c ty ρ (.str x)) (hw0 : sval B.works x = some w) (k : Nx c B0 D (ρ.set i (.bk C a A { B with works := sdrop B.works x }))) : Go c B0 (tDrop (L2.tDPop1 (L2.tFld K (tVar i) "works") ty)) D ρ := fun O σ F H e S => by
  obtain ⟨o, ho, eo, _, q⟩ := S.get h
  obtain ⟨kvs0, q4, _⟩ := q.wk
  refine ⟨_, by rw [ho, eo], a, C, A.dx, _, .ref A.w, rfl, q.ob, T.cl, T.nw, rfl, A.w, rfl, .inl ⟨_, .inl q4⟩, hk O σ F H S _ fun w' F2 H2 e2 g2 S2 d2 => ?_⟩
  cases d2
  obtain ⟨o', ho', _, ow, p⟩ := S2.get h
  obtain ⟨kvs, r1, r2⟩ := p.wk
  obtain ⟨v1, _⟩ := r2.val (k := x)
  obtain ⟨v, hv, _⟩ := v1 (wD w) (by unfold wkD; rw [sval_map, hw0]; rfl)
  refine ⟨kvs, Sum.inr x, v, r1, rfl, hv, k O σ F2 _ (e.trans e2) (S2.bookU h (.inr (.inr (.inr (.inl rfl)))) (p.setW ?_))⟩
  have := r2.drop (k := x)
  unfold wkD at this ⊢
  rw [sdrop_map] at this
  exact this
end
end DL

end
section
set_option maxRecDepth 100000
set_option maxHeartbeats 2000000
/-! methods of a book: those that read it (or raise), those that change it -/
namespace DL
open PySem PySem.Spec PyProof.Rows L2
/-- how a book stands for a caller -/
structure BkIn (C a : Addr) (A : BkA) (B : Bk) (F H : Hp) : Prop where
  ff : Ex F H
  no : ∀ x, bkZ a A x → F x = none ∧ H x ≠ none
  at_ : BkAt C a A B F H
/-- what a method of a book has brought about -/
structure BkOut (C a : Addr) (A : BkA) (F H : Hp) (A' : BkA) (B' : Bk) (F' H' : Hp) : Prop where
  gr : Grow a A A'
  ef : Ex F F'
  bk : BkIn C a A' B' F' H'
  new : ∀ x, bkZ a A' x → bkZ a A x ∨ H x = none
  rest : ∀ x, H x ≠ none → F x = none → ¬ (Five a A x ∨ A.G x) → H' x = H x ∧ F' x = none
/-- changes the book -/
def spBk (C : Addr) (R : Bk → List PyData → PyData → Bk → Prop) : Sp := fun vs H Q _ => ∃ a us A B F ds r B', vs = .ref a :: us ∧ BkIn C a A B F H ∧ DdAll anyM F us ds ∧ R B ds r B' ∧ isSca r = true ∧
  ∀ v A' F' H', BkOut C a A F H A' B' F' H' → Sca v r → Q v H'
/-- reads it, or raises -/
def spRd (K : PySem.W.Frag) (ms : List Bool) (P : List PyData → Prop) (R : List PyData → PyData → Prop) (X : List PyData → Addr → Prop) : Sp := fun vs H Q E => ∃ Z ds, DdM K Z H ms vs ds ∧
  ((P ds ∧ ∀ r v H', R ds r → Ex H H' → Dd (only fun a => H a = none ∨ Z a) H' v r → Q v H') ∨ ∃ C, X ds C ∧ ∀ H', Ex H H' → E (.ref C) none H')
def spM2 (K : PySem.W.Frag) (C : Addr) (ms : List Bool) (P : List PyData → Prop) (R : List PyData → PyData → Prop) (X : List PyData → Addr → Prop) (RB : Bk → List PyData → PyData → Bk → Prop) : Sp := fun vs H Q E => spRd K ms P R X vs H Q E ∨ spBk C RB vs H Q E
/-! ### entering with an owned book -/
def inA (A : BkA) (a : Addr) (F H : Hp) : BkA := { A with X := fun x => H x ≠ none ∧ F x = none ∧ ¬ (Five a A x ∨ A.G x), HX := H }
abbrev bkC (K : PySem.W.Frag) (F : Hp) : Cq K := ⟨F, fun _ => True, fun _ _ => trivial⟩
theorem DdAll.any1 {m : Mode} {H : Hp} (hl : ∀ a xs, ¬ m.L a xs) {vs : List V} {ds : List PyData} (h : DdAll m H vs ds) : DdAll anyM H vs ds := h.up ⟨fun _ _ => trivial, fun a xs z => (hl a xs z).elim⟩ (Evl.Ex.refl _)
theorem Dd.any1 {m : Mode} {H : Hp} (hl : ∀ a xs, ¬ m.L a xs) {v : V} {d : PyData} (h : Dd m H v d) : Dd anyM H v d := h.up ⟨fun _ _ => trivial, fun a xs z => (hl a xs z).elim⟩ (Evl.Ex.refl _)
section
variable {K : PySem.W.Frag} {C a : Addr} {A : BkA} {B B' : Bk} {F H F' H' : Hp}
theorem BkIn.inn (h : BkIn C a A B F H) : BkIn C a (inA A a F H) B F H := ⟨h.ff, fun x z => by
    rcases z with z | z | z
    · exact h.no x (.inl z)
    · exact h.no x (.inr (.inl z))
    · exact ⟨z.2.1, z.1⟩, ⟨h.at_.ob, h.at_.od, h.at_.nm, h.at_.wk, h.at_.pr, h.at_.nd, fun x z => ⟨rfl, z.2.2⟩⟩⟩
theorem enter_bk {N : List Str} {us : List V} {ds : List PyData} (h : BkIn C a A B F H) (d : DdAll anyM F us ds) (hl : us.length + 1 ≤ N.length) : Sim (bkC K F) (fun _ => False) ((.bk C a (inA A a F H) B :: ds.map (Sl.val true)) ++ List.replicate (N.length - (ds.length + 1)) Sl.no) (L2.start N (.ref a :: us)) F H := by
  have l := d.length
  refine ⟨Evl.Ex.refl _, h.ff, fun _ h => h.elim, by simp [L2.start, l], fun i s o h1 h2 => ?_, fun i j s t o o' x h1 h2 h3 h4 h5 h6 => ?_⟩
  · cases i with
    | zero =>
      simp [L2.start] at h1 h2
      subst h1 h2
      exact ⟨rfl, h.inn.no, h.inn.at_⟩
    | succ i =>
      by_cases hi : i < ds.length
      · rw [List.getElem?_append_left (by simp; omega)] at h1
        unfold L2.start at h2
        rw [List.getElem?_append_left (by simp; omega)] at h2
        simp only [List.getElem?_cons_succ, List.map_cons, List.getElem?_map] at h1 h2
        cases e1 : ds[i]? with
        | none => rw [e1] at h1; cases h1
        | some d0 =>
          rw [e1] at h1
          cases h1
          obtain ⟨v, e2, dd⟩ := d.get e1
          rw [e2] at h2
          cases h2
          exact ⟨v, rfl, dd⟩
      · rw [List.getElem?_append_right (by simp; omega), List.getElem?_replicate] at h1
        split at h1
        · cases h1; trivial
        · cases h1
  · have own0 : ∀ (i : Nat) (s : Sl) (o : Option V), ((.bk C a (inA A a F H) B :: ds.map (Sl.val true)) ++ List.replicate (N.length - (ds.length + 1)) Sl.no)[i]? = some s → s.Owns o x → i = 0 := fun i s o h1 h5 => by
      cases i with
      | zero => rfl
      | succ i =>
        exfalso
        by_cases hi : i < ds.length
        · rw [List.getElem?_append_left (by simp; omega)] at h1
          simp only [List.getElem?_cons_succ, List.getElem?_map] at h1
          cases e1 : ds[i]? with
          | none => rw [e1] at h1; cases h1
          | some d0 => rw [e1] at h1; cases h1; exact h5
        · rw [List.getElem?_append_right (by simp; omega), List.getElem?_replicate] at h1
          split at h1
          · cases h1; exact h5
          · cases h1
    rw [own0 i s o h1 h5, own0 j t o' h2 h6]
/-- what the body is asked for -/
def RtBk (Q : VK) (F : Hp) (C a : Addr) (A0 : BkA) (r : PyData) (B' : Bk) : Prop := ∀ v A' F' H', Grow a A0 A' → Ex F F' → BkIn C a A' B' F' H' → Sca v r → Q v H'
theorem RtBk.of {Q : VK} {r : PyData} (h : BkIn C a A B F H) (k : ∀ v A' F' H', BkOut C a A F H A' B' F' H' → Sca v r → Q v H') : RtBk Q F C a (inA A a F H) r B' := fun v A' F' H' g ef b sv => by
  have hX : A'.X = fun x => H x ≠ none ∧ F x = none ∧ ¬ (Five a A x ∨ A.G x) := g.x
  have hHX : A'.HX = H := g.hx
  have sub : ∀ x, A.X x → A'.X x := fun x z => by
    rw [hX]
    have n := h.no x (.inr (.inr z))
    exact ⟨n.2, n.1, (h.at_.fr x z).2⟩
  refine k v { A' with X := A.X, HX := A.HX } F' H' ⟨⟨rfl, rfl, g.z⟩, ef, ⟨b.ff, fun x z => ?_, ⟨b.at_.ob, b.at_.od, b.at_.nm, b.at_.wk, b.at_.pr, b.at_.nd, fun x z => ?_⟩⟩, fun x z => ?_, fun x h1 h2 h3 => ?_⟩ sv
  · rcases z with z | z | z
    · exact b.no x (.inl z)
    · exact b.no x (.inr (.inl z))
    · exact b.no x (.inr (.inr (sub x z)))
  · obtain ⟨f1, f2⟩ := b.at_.fr x (sub x z)
    exact ⟨by rw [f1, hHX]; exact (h.at_.fr x z).1, f2⟩
  · rcases Classical.em (H x = none) with hx | hx
    · exact .inr hx
    · left
      have fx : F x = none := by
        cases e : F x with
        | none => rfl
        | some o =>
          have z' : F' x = none := by
            rcases z with z | z | z
            · exact (b.no x (.inl z)).1
            · exact (b.no x (.inr (.inl z))).1
            · exact (b.no x (.inr (.inr (sub x z)))).1
          rw [ef x o e] at z'; cases z'
      rcases Classical.em (Five a A x ∨ A.G x) with q | q
      · exact q.elim .inl fun q => .inr (.inl q)
      · have xx : A'.X x := by rw [hX]; exact ⟨hx, fx, q⟩
        have nf := (b.at_.fr x xx).2
        rcases z with z | z | z
        · exact (nf (.inl z)).elim
        · exact (nf (.inr z)).elim
        · exact .inr (.inr z)
  · have xx : A'.X x := by rw [hX]; exact ⟨h1, h2, h3⟩
    exact ⟨by rw [(b.at_.fr x xx).1, hHX], (b.no x (.inr (.inr xx))).1⟩
end
section
variable {K : PySem.W.Frag} {c : Cq K} {B0 : Hp} {D : Ends} {ρ ρ' : Rho} {C a : Addr} {A A0 A' : BkA} {B B' : Bk} {i : Nat} {b : Bool} {te ta : TE} {t : TA} {r d : PyData} {ds : List PyData} {tz : TS}
theorem Dd.to_sca {m : Mode} {H : Hp} {v : V} {d : PyData} (h : Dd m H v d) (s : isSca d = true) : Sca v d := by
  cases h with
  | non => exact .non
  | bl b => exact .bl b
  | int i => exact .int i
  | str x => exact .str x
  | _ => cases s
theorem Sim.bkIn {O : Addr → Prop} {σ : St} {F H : Hp} (S : Sim c O ρ σ F H) (h : ρ[i]? = some (.bk C a A B)) : σ[i]? = some (some (.ref a)) ∧ BkIn C a A B F H := by
  obtain ⟨o, ho, e, ow, p⟩ := S.get h
  exact ⟨by rw [ho, e], S.ff, ow, p⟩
/-- in the caller, behind a method that changes the book -/
theorem Sim.bkOut {O : Addr → Prop} {σ : St} {F H F' H' : Hp} (S : Sim c O ρ σ F H) (h : ρ[i]? = some (.bk C a A B)) (x : BkOut C a A F H A' B' F' H') : Sim c O (ρ.set i (.bk C a A' B')) σ F' H' := by
  obtain ⟨ho, bi⟩ := S.bkIn h
  have keep : ∀ y, F y = none → H y ≠ none → F' y = none ∧ H' y ≠ none := fun y fy hy => by
    rcases Classical.em (Five a A y ∨ A.G y) with q | q
    · exact x.bk.no y ((x.gr.z y q).elim .inl fun q => .inr (.inl q))
    · obtain ⟨q1, q2⟩ := x.rest y hy fy q
      exact ⟨q2, by rw [q1]; exact hy⟩
  have get : ∀ (k : Nat) (s : Sl), (ρ.set i (.bk C a A' B'))[k]? = some s → (k = i ∧ s = .bk C a A' B') ∨ (k ≠ i ∧ ρ[k]? = some s) := fun k s q => by
    rw [List.getElem?_set] at q
    split at q
    · rename_i e
      split at q
      · cases q; exact .inl ⟨e.symm, rfl⟩
      · cases q
    · rename_i e
      exact .inr ⟨fun z => e z.symm, q⟩
  refine ⟨S.base.trans x.ef, x.bk.ff, fun y q => keep y (S.prot y q).1 (S.prot y q).2, by rw [List.length_set]; exact S.len, fun k s o h1 h2 => ?_, fun k l s t o o' y h1 h2 h3 h4 h5 h6 => ?_⟩
  · rcases get k s h1 with ⟨rfl, rfl⟩ | ⟨ne, h1⟩
    · rw [ho] at h2
      cases h2
      exact ⟨rfl, x.bk.no, x.bk.at_⟩
    · have y := S.sl k s o h1 h2
      refine y.move x.ef fun z hz => ?_
      obtain ⟨q1, q2⟩ := y.owned hz
      have nb : ¬ bkZ a A z := fun q => ne (S.apart k i s _ o _ z h1 h h2 ho hz q)
      obtain ⟨q3, q4⟩ := x.rest z q2 q1 fun q => nb (q.elim .inl fun q => .inr (.inl q))
      exact ⟨q4, q3⟩
  · have fin : ∀ (l : Nat) (t : Sl) (o' : Option V), l ≠ i → ρ[l]? = some t → σ[l]? = some o' → t.Owns o' y → ¬ bkZ a A' y := fun l t o' ne h2 h4 h6 q => by
      rcases x.new y q with q | q
      · exact ne (S.apart l i t _ o' _ y h2 h h4 ho h6 q)
      · exact ((S.sl l t o' h2 h4).owned h6).2 q
    rcases get k s h1 with ⟨ek, es⟩ | ⟨ne, hk⟩
    · rcases get l t h2 with ⟨el, et⟩ | ⟨ne, hl⟩
      · rw [ek, el]
      · subst es
        exact (fin l t o' ne hl h4 h6 h5).elim
    · rcases get l t h2 with ⟨el, et⟩ | ⟨ne', hl⟩
      · subst et
        exact (fin k s o ne hk h3 h5 h6).elim
      · exact S.apart k l s t o o' y hk hl h3 h4 h5 h6
/-- an expression that changes the book at slot i to B', its value the scalar r -/
def EvC {K : PySem.W.Frag} (c : Cq K) (te : TE) (ρ : Rho) (i : Nat) (C a : Addr) (A : BkA) (B' : Bk) (r : PyData) : Prop := ∀ (O : Addr → Prop) (σ : St) (F H : Hp), Sim c O ρ σ F H → ∀ Q : VK, (∀ v A' F' H', Grow a A A' → Ex F F' → Sim c O (ρ.set i (.bk C a A' B')) σ F' H' → Sca v r → Q v H') → te σ H Q
def EvBC {K : PySem.W.Frag} (c : Cq K) (tt : TT) (ρ : Rho) (i : Nat) (C a : Addr) (A : BkA) (B' : Bk) (x : Bool) : Prop := ∀ (O : Addr → Prop) (σ : St) (F H : Hp), Sim c O ρ σ F H → ∀ Q : Bool → Hp → Prop, (∀ A' F' H', Grow a A A' → Ex F F' → Sim c O (ρ.set i (.bk C a A' B')) σ F' H' → Q x H') → tt σ H Q
/-- o.m(..), changing -/
theorem lk_none {m : Str} (hm : (fldA A).lookup m = none := by rfl) : (fldA A).lookup m = none := hm
variable {m : Str} {E : XK} {ms : List Bool} {P : List PyData → Prop} {R : List PyData → PyData → Prop} {X : List PyData → Addr → Prop} {RB : Bk → List PyData → PyData → Bk → Prop}
theorem fldA_none (h1 : m ≠ "names") (h2 : m ≠ "works") (h3 : m ≠ "pairs") (A : BkA) : (fldA A).lookup m = none := by
  unfold fldA
  rw [List.lookup_cons, beq_false_of_ne h1]
  show List.lookup m [("works", V.ref A.w), ("pairs", .ref A.p)] = none
  rw [List.lookup_cons, beq_false_of_ne h2]
  show List.lookup m [("pairs", V.ref A.p)] = none
  rw [List.lookup_cons, beq_false_of_ne h3]
  rfl
theorem bkF_none (h1 : m ≠ "names") (h2 : m ≠ "works") (h3 : m ≠ "pairs") (B : Bk) : (bkF B).lookup m = none := by
  unfold bkF
  rw [List.lookup_cons, beq_false_of_ne h1]
  show List.lookup m [_, _] = none
  rw [List.lookup_cons, beq_false_of_ne h2]
  show List.lookup m [_] = none
  rw [List.lookup_cons, beq_false_of_ne h3]
  rfl
/-- a name of a method -/
structure NF (m : Str) : Prop where
  a : m ≠ "names"
  b : m ≠ "works"
  c : m ≠ "pairs"
theorem ec_meth (nf : NF m) (h : ρ[i]? = some (.bk C a A B)) (ha : EvAF c true t ρ ds) (hR : RB B ds r B') (hs : isSca r = true) : EvC c (tMeth C m (spM2 K C ms P R X RB) [] E (tVar i) t) ρ i C a A B' r := fun O σ F H S Q k => by
  obtain ⟨ho, bi⟩ := S.bkIn h
  refine ⟨_, ho, a, A.dx, _, rfl, bi.at_.ob, fldA_none nf.a nf.b nf.c A, ha O σ F H S _ fun vs F1 H1 e1 g1 S1 d1 => ?_⟩
  obtain ⟨_, bi1⟩ := S1.bkIn h
  exact .inr ⟨a, vs, A, B, F1, ds, r, B', by rw [List.append_nil], bi1, d1.any1 fun _ _ z => z, hR, hs, fun v A' F' H' x sv => k v A' F' H' x.gr (e1.trans x.ef) (S1.bkOut h x) sv⟩
/-! what is done with such a value -/
theorem go_dropC (h : EvC c te ρ i C a A B' r) (k : ∀ A', Grow a A A' → Nx c B0 D (ρ.set i (.bk C a A' B'))) : Go c B0 (tDrop te) D ρ := fun O σ F H e S => h O σ F H S _ fun v A' F' H' g ef S' sv => k A' g O σ F' H' (e.trans ef) S'
theorem q_dropC (h : EvC c te ρ i C a A B' r) (k : ∀ A', Grow a A A' → Go c B0 tz D (ρ.set i (.bk C a A' B'))) : Go c B0 (tSeq (tDrop te) tz) D ρ := go_dropC (D := { D with nx := tz D }) h k
theorem ec_neZ {x y : Str} (h : EvC c te ρ i C a A B' (.str x)) : EvC c (tOp rNe te (tC (.str y))) ρ i C a A B' (.bool (!decide (x = y))) := fun O σ F H S Q k => h O σ F H S _ fun v A' F' H' g ef S' sv => by
  cases sv
  refine ⟨rfl, ?_⟩
  have e : decide (V.str x = V.str y) = decide (x = y) := by simp
  rw [e]
  exact k _ A' F' H' g ef S' (.bl _)
theorem ec_eqZ {x y : Str} (h : EvC c te ρ i C a A B' (.str x)) : EvC c (tOp rEq te (tC (.str y))) ρ i C a A B' (.bool (decide (x = y))) := fun O σ F H S Q k => h O σ F H S _ fun v A' F' H' g ef S' sv => by
  cases sv
  refine ⟨rfl, ?_⟩
  have e : decide (V.str x = V.str y) = decide (x = y) := by simp
  rw [e]
  exact k _ A' F' H' g ef S' (.bl _)
theorem eb_testC {x : Bool} (h : EvC c te ρ i C a A B' (.bool x)) : EvBC c (tTest te) ρ i C a A B' x := fun O σ F H S Q k => h O σ F H S _ fun v A' F' H' g ef S' sv => by
  cases sv
  exact ⟨x, rfl, k A' F' H' g ef S'⟩
theorem eb_BC {x : Bool} (h : EvC c te ρ i C a A B' (.bool x)) : EvBC c (tB te) ρ i C a A B' x := fun O σ F H S Q k => h O σ F H S _ fun v A' F' H' g ef S' sv => by
  cases sv
  exact ⟨x, rfl, k A' F' H' g ef S'⟩
/-- a change, False; then one more -/
theorem eb_orCC {tt tu : TT} {B1 B2 : Bk} {y : Bool} (hi : i < ρ.length) (h : EvBC c tt ρ i C a A B1 false) (h2 : ∀ A1, Grow a A A1 → EvBC c tu (ρ.set i (.bk C a A1 B1)) i C a A1 B2 y) : EvBC c (tOr tt tu) ρ i C a A B2 y := fun O σ F H S Q k => h O σ F H S _ fun A1 F1 H1 g1 e1 S1 => iteF (h2 A1 g1 O σ F1 H1 S1 Q fun A2 F2 H2 g2 e2 S2 => k A2 F2 H2 (g1.trans g2) (e1.trans e2) (by rw [List.set_set] at S2; exact S2))
/-- .. then a test that changes nothing -/
theorem eb_orCB {tt tu : TT} {B1 : Bk} {y : Bool} (h : EvBC c tt ρ i C a A B1 false) (h2 : ∀ A1, Grow a A A1 → EvB c tu (ρ.set i (.bk C a A1 B1)) y) : EvBC c (tOr tt tu) ρ i C a A B1 y := fun O σ F H S Q k => h O σ F H S _ fun A1 F1 H1 g1 e1 S1 => iteF (h2 A1 g1 O σ F1 H1 S1 Q fun F2 H2 e2 _ S2 => k A1 F2 H2 g1 (e1.trans e2) S2)
theorem ev_andCB {ta tb : TE} {B1 : Bk} {y : Bool} (h : EvC c ta ρ i C a A B1 (.bool true)) (h2 : ∀ A1, Grow a A A1 → EvR c tb (ρ.set i (.bk C a A1 B1)) (.bool y)) : EvC c (tAndV ta tb) ρ i C a A B1 (.bool y) := fun O σ F H S Q k => h O σ F H S _ fun v A1 F1 H1 g1 e1 S1 sv => by
  cases sv
  refine ⟨true, rfl, iteT (h2 A1 g1 O σ F1 H1 S1 Q fun w F2 H2 e2 _ S2 d2 => k w A1 F2 H2 g1 (e1.trans e2) S2 (d2.to_sca rfl))⟩
theorem eb_notC {tt : TT} {x : Bool} (h : EvBC c tt ρ i C a A B' x) : EvBC c (tNot tt) ρ i C a A B' (!x) := fun O σ F H S Q k => h O σ F H S _ fun A1 F1 H1 g1 e1 S1 => k A1 F1 H1 g1 e1 S1
theorem go_ifC {tt : TT} {t1 t2 : TS} {x : Bool} (h : EvBC c tt ρ i C a A B' x) (h1 : x = true → ∀ A', Grow a A A' → Go c B0 t1 D (ρ.set i (.bk C a A' B'))) (h2 : x = false → ∀ A', Grow a A A' → Go c B0 t2 D (ρ.set i (.bk C a A' B'))) : Go c B0 (tIfS tt t1 t2) D ρ := fun O σ F H e S => h O σ F H S _ fun A1 F1 H1 g1 e1 S1 => by
  cases x with
  | true => exact iteT (h1 rfl A1 g1 O σ F1 H1 (e.trans e1) S1)
  | false => exact iteF (h2 rfl A1 g1 O σ F1 H1 (e.trans e1) S1)
/-- a change that is no reason to leave -/
theorem q_whenC {tt : TT} {t1 : TS} (h : EvBC c tt ρ i C a A B' false) (h2 : ∀ A', Grow a A A' → Go c B0 tz D (ρ.set i (.bk C a A' B'))) : Go c B0 (tSeq (tIfS tt t1 tNext) tz) D ρ := go_ifC (D := { D with nx := tz D }) h (fun z => (by cases z)) fun _ => h2
/-- handed back: the caller's own def has no book -/
theorem go_retC (h : EvC c te ρ i C a A B' r) (k : Rt c D.rt r) : Go c B0 (tRet te) D ρ := fun O σ F H e S => h O σ F H S _ fun v A' F' H' g ef S' sv => k v H' S'.bb sv.dd
/-- handed back, with the book that came in -/
theorem go_retBk (h : ρ[0]? = some (.bk C a A B')) (g : Grow a A0 A) (hv : Ev c b te ρ r) (hs : isSca r = true) (k : RtBk D.rt c.H0 C a A0 r B') : Go c B0 (tRet te) D ρ := fun O σ F H e S => hv O σ F H S _ fun v F1 H1 e1 h1 S1 d1 => k v A F1 H1 g S1.base (S1.bkIn h).2 (d1.to_sca hs)
theorem nx_retBk (h : ρ[0]? = some (.bk C a A B')) (g : Grow a A0 A) (e : D.nx = fun _ H' => D.rt .non H') (k : RtBk D.rt c.H0 C a A0 .none B') : Nx c B0 D ρ := fun O σ F H _ S => by
  rw [e]
  exact k .non A F H g S.base (S.bkIn h).2 .non
theorem go_retCBk (h : EvC c te ρ 0 C a A B' r) (h0 : 0 < ρ.length) (g : Grow a A0 A) (k : RtBk D.rt c.H0 C a A0 r B') : Go c B0 (tRet te) D ρ := fun O σ F H e S => h O σ F H S _ fun v A' F' H' g' ef S' sv => k v A' F' H' (g.trans g') S'.base (S'.bkIn (List.getElem?_set_self h0)).2 sv
/-! reading methods -/
theorem EvN.ev1 (h : EvN c b te ρ (fun x => x = d)) : Ev c b te ρ d := fun O σ F H S Q k => h O σ F H S _ fun x v F' H' e e1 e2 S' dd => by subst e; exact k v F' H' e1 e2 S' dd
theorem EvN.sca {P : PyData → Prop} (h : EvN c b te ρ P) (hs : ∀ d, P d → isSca d = true) {b' : Bool} : EvN c b' te ρ P := fun O σ F H S Q k => h O σ F H S _ fun x v F' H' p e1 e2 S' dd => k x v F' H' p e1 e2 S' (dd.sca (hs x p))
/-- by a book that is data -/
theorem en_meth (nf : NF m) (hself : Ev c true ta ρ (bkD C B)) (ha : EvAM c ms t ρ ds) (hP : P (bkD C B :: ds)) : EvN c true (tMeth C m (spM2 K C (true :: ms) P R X RB) [] E ta t) ρ (R (bkD C B :: ds)) := fun O σ F H S Q k => hself O σ F H S _ fun v F0 H0 e0 g0 S0 d0 => by
  obtain ⟨a, dx, fs, rfl, nwa, h1, h2, h3⟩ := d0.toIns
  refine ⟨a, dx, fs, rfl, S0.ff _ _ h1, no_lookup h2 (bkF_none nf.a nf.b nf.c B), ha O σ F0 H0 S0 _ fun vs F1 H1 e1 g1 S1 d1 => ?_⟩
  have dm := DdMM.m S1.ff (.new (d0.ex e1) d1)
  refine .inl ⟨_, _, by rw [List.append_nil]; exact dm, .inl ⟨hP, fun r v H' hR e2 dd => k r v _ H' hR (e0.trans (e1.trans (addF_ex S1.ff))) (g0.trans (g1.trans e2)) (S1.add e2) ?_⟩⟩
  refine dd.mono (fun x u p ra => ?_) fun _ _ (h : False) => h.elim
  rcases p with p | ⟨p, q⟩
  · exact ⟨Cq.any (b := true) (Evl.fresh_back S1.bb p), (addF_new p).trans ra⟩
  · refine ⟨p, ?_⟩
    have n1 : H1 x ≠ none := fun z => q (Evl.fresh_back S1.ff z)
    cases eF : F1 x with
    | none => exact absurd eF q
    | some o =>
      have g := e2 x o (S1.ff x o eF)
      have z : addF F1 H1 H' x = some o := by rw [addF_old n1]; exact eF
      rw [z]; rw [g] at ra; exact ra
theorem ez_meth {Ce : Addr} (nf : NF m) (hself : Ev c true ta ρ (bkD C B)) (ha : EvAM c ms t ρ ds) (hX : X (bkD C B :: ds) Ce) (hE : ∀ H', Ex c.H0 H' → E (.ref Ce) none H') : EvZ c (tMeth C m (spM2 K C (true :: ms) P R X RB) [] E ta t) ρ := fun O σ F H S Q => hself O σ F H S _ fun v F0 H0 e0 g0 S0 d0 => by
  obtain ⟨a, dx, fs, rfl, nwa, h1, h2, h3⟩ := d0.toIns
  refine ⟨a, dx, fs, rfl, S0.ff _ _ h1, no_lookup h2 (bkF_none nf.a nf.b nf.c B), ha O σ F0 H0 S0 _ fun vs F1 H1 e1 g1 S1 d1 => ?_⟩
  have dm := DdMM.m S1.ff (.new (d0.ex e1) d1)
  exact .inl ⟨_, _, by rw [List.append_nil]; exact dm, .inr ⟨Ce, hX, fun H' e2 => hE H' (S1.bb.trans e2)⟩⟩
theorem DdM.plain {Z : Addr → Prop} {H : Hp} : ∀ {vs : List V} {ds : List PyData}, DdAll (T1 K) H vs ds → DdM K Z H (ds.map fun _ => false) vs ds
  | _, _, .nil => .nil
  | _, _, .cons d h => .any d (DdM.plain h)
/-- by a book that is owned; scalars come back -/
theorem en_methO (nf : NF m) (h : ρ[i]? = some (.bk C a A B)) (ha : EvA c t ρ ds) (hms : ms = ds.map fun _ => false) (hP : P (bkD C B :: ds)) (hs : ∀ r, R (bkD C B :: ds) r → isSca r = true) : EvN c b (tMeth C m (spM2 K C (true :: ms) P R X RB) [] E (tVar i) t) ρ (R (bkD C B :: ds)) := fun O σ F H S Q k => by
  obtain ⟨ho, bi⟩ := S.bkIn h
  refine ⟨_, ho, a, A.dx, _, rfl, bi.at_.ob, fldA_none nf.a nf.b nf.c A, ha O σ F H S _ fun vs F1 H1 e1 g1 S1 d1 => ?_⟩
  obtain ⟨_, bi1⟩ := S1.bkIn h
  subst hms
  exact .inl ⟨fun _ => True, _, by rw [List.append_nil]; exact .new (bi1.at_.data S1.ff) (DdM.plain d1), .inl ⟨hP, fun r v H' hR e2 dd => k r v _ H' hR (e1.trans (addF_ex S1.ff)) (g1.trans e2) (S1.add e2) (dd.sca (hs r hR))⟩⟩
theorem ez_methO {Ce : Addr} (nf : NF m) (h : ρ[i]? = some (.bk C a A B)) (ha : EvA c t ρ ds) (hms : ms = ds.map fun _ => false) (hX : X (bkD C B :: ds) Ce) (hE : ∀ H', Ex c.H0 H' → E (.ref Ce) none H') : EvZ c (tMeth C m (spM2 K C (true :: ms) P R X RB) [] E (tVar i) t) ρ := fun O σ F H S Q => by
  obtain ⟨ho, bi⟩ := S.bkIn h
  refine ⟨_, ho, a, A.dx, _, rfl, bi.at_.ob, fldA_none nf.a nf.b nf.c A, ha O σ F H S _ fun vs F1 H1 e1 g1 S1 d1 => ?_⟩
  obtain ⟨_, bi1⟩ := S1.bkIn h
  subst hms
  exact .inl ⟨fun _ => True, _, by rw [List.append_nil]; exact .new (bi1.at_.data S1.ff) (DdM.plain d1), .inr ⟨Ce, hX, fun H' e2 => hE H' (S1.bb.trans e2)⟩⟩
end
end DL

end
section
set_option maxRecDepth 100000
set_option maxHeartbeats 2000000
/-! the class: its methods as defs, Book() -/
namespace DL
open PySem PySem.Spec PyProof.Rows L2
structure DfnM (K : PySem.W.Frag) (C : Addr) (m qual : Str) (st : Stmt) (ps : List Str) : Prop where
  ex : ∃ (f : Addr) (fd : FuncData), Fun K m qual st f fd ∧ L2.Cls K C ∧ L2.Meth K C m f ∧ Binds K fd ps []
structure ClM (P : Program) (w : World) (K : PySem.W.Frag) (mg : Str → Option Value) (base : Heap) (CX : CXT) (k : Nat) (C : Addr) (m : Str) (sp : Sp) : Prop where
  ex : ∃ (f : Addr) (fd : FuncData) (ps : List Str), L2.Cls K C ∧ L2.Meth K C m f ∧ FnOk P w K mg base CX k f fd ps sp ∧ Binds K fd ps []
section
variable {X : Cx} {CX : CXT} {k : Nat} {C : Addr} {m : Str} {sp : Sp} {E : XK} {pos apos : Pos} {e o : Expr} {es : List Expr} {ta : TE} {t : TA}
theorem pe_m {pl : Sem Bool} (c : ClM X.prog X.w X.K X.mg X.base CX k C m sp) (hr : Room k X.A) (hx : Passes CX X E) (he : PE X o ta) (ha : PA X (e :: es) t)
    (hst : starEach (e :: es) X.env = (false, eval e X.env) :: starEach es X.env := by rfl) (hpl : (backTo pos (starEach es X.env)).any (·.1) = false := by rfl)
    (ht : eval (.Call (.Attribute o m apos) (e :: es) [] pos) X.env = (do
      let ov ← eval o X.env
      standAt apos.atName
      let (f, first) ← holding [ov] (getMethod ov m pl)
      callWith pos f first (backTo pos (starEach (e :: es) X.env)) (backToKw pos (keywordEach [] X.env))) := by rfl) :
    PE X (.Call (.Attribute o m apos) (e :: es) [] pos) (tMeth C m sp [] E ta t) := by
  obtain ⟨f, fd, ps, hc, hm, F, b⟩ := c.ex
  exact pe_meth (pl := pl) he hc hm F hr b .nil hx ha hst hpl ht
theorem pe_m0 {pl : Sem Bool} (c : ClM X.prog X.w X.K X.mg X.base CX k C m sp) (hr : Room k X.A) (hx : Passes CX X E) (he : PE X o ta)
    (ht : eval (.Call (.Attribute o m apos) [] [] pos) X.env = (do
      let ov ← eval o X.env
      standAt apos.atName
      let (f, first) ← holding [ov] (getMethod ov m pl)
      callWith pos f first (backTo pos (starEach [] X.env)) (backToKw pos (keywordEach [] X.env))) := by rfl) :
    PE X (.Call (.Attribute o m apos) [] [] pos) (tMeth C m sp [] E ta tNil) := by
  obtain ⟨f, fd, ps, hc, hm, F, b⟩ := c.ex
  exact pe_meth0 (pl := pl) he hc hm F hr b .nil hx ht
/-- .. within a try -/
def tMethT (C : Addr) (m : Str) (sp : Sp) (E : L2.St → XK) (ta : TE) (t : TA) : TE := fun σ H Q => ta σ H fun x H1 => ∃ a dx fs, x = .ref a ∧ H1 a = some (.ins C dx fs) ∧ fs.lookup m = none ∧ t σ H1 fun vs H2 => sp (x :: vs) H2 Q (E σ)
theorem pe_mT {pl : Sem Bool} {E : L2.St → XK} (c : ClM X.prog X.w X.K X.mg X.base CX k C m sp) (hr : Room k X.A) (hx : ∀ σ, PassesAt CX X σ (E σ)) (he : PE X o ta) (ha : PA X (e :: es) t)
    (hst : starEach (e :: es) X.env = (false, eval e X.env) :: starEach es X.env := by rfl) (hpl : (backTo pos (starEach es X.env)).any (·.1) = false := by rfl)
    (ht : eval (.Call (.Attribute o m apos) (e :: es) [] pos) X.env = (do
      let ov ← eval o X.env
      standAt apos.atName
      let (f, first) ← holding [ov] (getMethod ov m pl)
      callWith pos f first (backTo pos (starEach (e :: es) X.env)) (backToKw pos (keywordEach [] X.env))) := by rfl) :
    PE X (.Call (.Attribute o m apos) (e :: es) [] pos) (tMethT C m sp E ta t) := by
  obtain ⟨f, fd, ps, c, hm, F, hb⟩ := c.ex
  refine ⟨fun pins s σ H Q I h => ?_⟩
  refine PySem.W.methodCall_KW (pl := pl) (thn (he.run pins s σ H _ I h) fun u s1 ⟨x, H1, I1, rx, a, dx, fs, ex, ea, l, q⟩ => ?_) ht
  subst ex
  obtain rfl : u = Value.ref a := rx
  refine getmeth_ok I1 ea c hm l ?_
  refine PySem.W.callWith_K (first := [.ref a]) (h₀ := X.base) I.ok.mod.kin hm.kp (thn (ha.run pos pins s1 σ H1 _ I1 q) fun us s2 ⟨vs, H2, I2, r, q2⟩ => ⟨I2.kIn, ?_⟩) hst hpl
  exact run_fnS (us := .ref a :: us) (vs := .ref a :: vs) F hr hb (hx σ) I2 (.cons rfl r) q2
end
section
variable {P : Program} {w : World} {K : PySem.W.Frag} {mg : Str → Option Value} {base : Heap} {C : Addr} {m qual : Str} {st : Stmt} {N ps : List Str} {k : Nat}
/-- the body by its three ways: it reads, it raises, it changes -/
theorem cm_all {ms : List Bool} {PP : List PyData → Prop} {R : List PyData → PyData → Prop} {Xr : List PyData → Addr → Prop} {RB : Bk → List PyData → PyData → Bk → Prop} (D : DfnM K C m qual st ps) (S : FnScope N ps (defScope st))
    (hms : ms.length = ps.length) (hRB : ∀ B ds r B', RB B ds r B' → ds.length + 1 = ps.length)
    (hbody : ∀ (f : Addr) (cdv : Value) (A : Around) (outer : List Env) (s : Shared) (H : Hp) (E : XK), Room k (A.deeper (envOfC qual (defScope st) s.heap.objs.size f cdv)) →
      ∃ t, PSs (cxOf (L2.CX P w) P w K mg base N qual (defScope st) f cdv A outer s H E) (defBody st) t ∧
        (∀ (Q : VK) (c : Cq K) ds, PP ds → (∀ r, R ds r → Rt c Q r) → ds.length = ps.length → Go c c.H0 t { nx := fun _ H' => Q .non H', rt := Q } (startM ms ds ++ List.replicate (N.length - ds.length) Sl.no)) ∧
        (∀ (Q : VK) (c : Cq K) ds Ce, Xr ds Ce → (∀ H', Ex c.H0 H' → E (.ref Ce) none H') → ds.length = ps.length → Go c c.H0 t { nx := fun _ H' => Q .non H', rt := Q } (startM ms ds ++ List.replicate (N.length - ds.length) Sl.no)) ∧
        (∀ (Q : VK) (c : Cq K) (a : Addr) (A : BkA) (B : Bk) ds r B', (∀ x, c.NW x) → RB B ds r B' → isSca r = true → RtBk Q c.H0 C a A r B' → Go c c.H0 t { nx := fun _ H' => Q .non H', rt := Q } ((.bk C a A B :: ds.map (Sl.val true)) ++ List.replicate (N.length - (ds.length + 1)) Sl.no))) :
    ClM P w K mg base (L2.CX P w) (k + 1) C m (spM2 K C ms PP R Xr RB) := by
  obtain ⟨f, fd, F, hc, hm, b⟩ := D.ex
  have hpl : ps.length ≤ N.length := by have := congrArg List.length S.pre; rw [List.length_take] at this; omega
  refine ⟨f, fd, ps, hc, hm, F.okX S (fun vs H Q E h => ?_) (fun cdv A outer s H vs Q E hr h => ?_), b⟩
  · rcases h with ⟨Z, ds, hd, _⟩ | ⟨a, us, A, B, F, ds, r, B', rfl, _, hd, hR, _⟩
    · have := hd.lens
      omega
    · have l := hd.length
      have e := hRB _ _ _ _ hR
      simp [l, e]
  · obtain ⟨t, h1, h2, h3, h4⟩ := hbody f cdv A outer s H E hr
    refine ⟨t, h1, ?_⟩
    rcases h with ⟨Z, ds, hd, h⟩ | ⟨a, us, A', B, F', ds, r, B', rfl, bi, hd, hR, hs, kk⟩
    · have hl := hd.lens
      have hn : ds.length = ps.length := by omega
      have sl : (startM ms ds).length = ds.length := by unfold startM; rw [List.length_map, List.length_zip, hl.2, Nat.min_self]
      have Sm : Sim (K := K) ⟨H, fun a => H a = none ∨ Z a, fun _ h => .inl h⟩ (fun _ => False) (startM ms ds ++ List.replicate (N.length - ds.length) Sl.no) (L2.start N vs) H H := by
        refine ⟨Evl.Ex.refl _, Evl.Ex.refl _, fun _ h => h.elim, by simp [L2.start, hl, sl], fun i s o h1 h2 => ?_, fun i j s t o o' a h1 h2 h3 h4 h5 => ?_⟩
        · by_cases hi : i < ds.length
          · rw [List.getElem?_append_left (by rw [sl]; exact hi)] at h1
            unfold L2.start at h2
            rw [List.getElem?_append_left (by rw [List.length_map]; omega)] at h2
            exact hd.start (fun a h => .inr h) i s o h1 h2
          · rw [List.getElem?_append_right (by rw [sl]; omega), List.getElem?_replicate] at h1
            split at h1
            · cases h1; trivial
            · cases h1
        · exfalso
          by_cases hi : i < ds.length
          · rw [List.getElem?_append_left (by rw [sl]; exact hi)] at h1
            exact startM_own h1 o a h5
          · rw [List.getElem?_append_right (by rw [sl]; omega), List.getElem?_replicate] at h1
            split at h1
            · cases h1; exact h5
            · cases h1
      rcases h with ⟨hP, kr⟩ | ⟨Ce, hX, ke⟩
      · exact h2 Q ⟨H, fun a => H a = none ∨ Z a, fun _ h => .inl h⟩ ds hP (fun r hR v H' e dd => kr r v H' hR e dd) hn _ _ H H (Evl.Ex.refl _) Sm
      · exact h3 Q ⟨H, fun a => H a = none ∨ Z a, fun _ h => .inl h⟩ ds Ce hX ke hn _ _ H H (Evl.Ex.refl _) Sm
    · have e := hRB _ _ _ _ hR
      have l := hd.length
      exact h4 Q (bkC K F') a (inA A' a F' H) B ds r B' (fun _ => trivial) hR hs (RtBk.of bi kk) _ _ F' H (Evl.Ex.refl _) (enter_bk bi hd (by omega))
end
/-! ### Book() -/
/-- __init__ of a new instance -/
def spInit (C : Addr) : Sp := fun vs H Q _ => ∃ p dx, vs = [.ref p] ∧ H p = some (.ins C dx []) ∧ p ≠ dx ∧ ∀ n w q H', H n = none → H w = none → H q = none → n ≠ w → n ≠ q → w ≠ q →
  H' p = some (.ins C dx [("names", .ref n), ("works", .ref w), ("pairs", .ref q)]) → H' n = some (.lst []) → H' w = some (.dK []) → H' q = some (.lst []) → (∀ x, x ≠ p → x ≠ n → x ≠ w → x ≠ q → H' x = H x) → Q .non H'
theorem upd_none {H : Hp} {a w : Addr} {o : HO} (h : upd H a o w = none) : w ≠ a ∧ H w = none := by
  by_cases e : w = a
  · rw [e, upd_same] at h; cases h
  · rw [upd_ne e] at h; exact ⟨e, h⟩
theorem init_walk {K : PySem.W.Frag} {C : Addr} (T : BkC K C) {H : Hp} {Q : VK} {E : XK} {vs : List V} (h : spInit C vs H Q E) :
    (tSeq (L2.sFld K (tVar 0) (tLst tNil) "names") (tSeq (L2.sFld K (tVar 0) L2.tDNewK "works") (L2.sFld K (tVar 0) (tLst tNil) "pairs"))) { nx := fun _ H' => Q .non H', rt := Q } (L2.start ["self"] vs) H := by
  obtain ⟨p, dx, rfl, hp, nd, k⟩ := h
  refine ⟨by decide, fun n hn => ?_⟩
  have pn : p ≠ n := fun z => by rw [z, hn] at hp; cases hp
  refine ⟨_, rfl, p, C, dx, [], rfl, by rw [upd_ne pn]; exact hp, T.cl, T.nn, by decide, ?_⟩
  intro w hw
  obtain ⟨wp, hw⟩ := upd_none hw
  obtain ⟨wn, hw⟩ := upd_none hw
  refine ⟨_, rfl, p, C, dx, [("names", .ref n)], rfl, by rw [upd_ne wp.symm, upd_same]; rfl, T.cl, T.nw, by show 1 < 1000; decide, ?_⟩
  refine ⟨by decide, fun q hq => ?_⟩
  obtain ⟨qp, hq⟩ := upd_none hq
  obtain ⟨qw, hq⟩ := upd_none hq
  obtain ⟨_, hq⟩ := upd_none hq
  obtain ⟨qn, hq⟩ := upd_none hq
  refine ⟨_, rfl, p, C, dx, [("names", .ref n), ("works", .ref w)], rfl, by rw [upd_ne qp.symm, upd_same]; rfl, T.cl, T.np, by show 2 < 1000; decide, ?_⟩
  refine k n w q _ hn hw hq wn.symm qn.symm qw.symm (by rw [upd_same]; rfl) ?_ ?_ ?_ fun x h1 h2 h3 h4 => ?_
  · rw [upd_ne pn.symm, upd_ne qn.symm, upd_ne pn.symm, upd_ne wn.symm, upd_ne pn.symm, upd_same]
  · rw [upd_ne wp, upd_ne qw.symm, upd_ne wp, upd_same]
  · rw [upd_ne qp, upd_same]
  · rw [upd_ne h1, upd_ne h4, upd_ne h1, upd_ne h3, upd_ne h1, upd_ne h2]
/-- a new book under a name -/
theorem go_make {K : PySem.W.Frag} {c : Cq K} {B0 : Hp} {D : Ends} {ρ : Rho} {C : Addr} {E : XK} {i : Nat} (k : ∀ a A, Nx c B0 D (ρ.set i (.bk C a A ⟨[], [], []⟩))) : Go c B0 (tAsg (L2.tMake C (spInit C) [] E tNil) (gName i)) D ρ := fun O σ F H e S => by
  intro p dx hp hdx nd
  have np : p ≠ dx := fun z => nd z.symm
  refine ⟨p, dx, rfl, upd_same, np, fun n w q H' hn hw hq nw nq wq h1 h2 h3 h4 h5 => ⟨rfl, ?_⟩⟩
  obtain ⟨n1, hn⟩ := upd_none hn
  obtain ⟨n2, hn⟩ := upd_none hn
  obtain ⟨w1, hw⟩ := upd_none hw
  obtain ⟨w2, hw⟩ := upd_none hw
  obtain ⟨q1, hq⟩ := upd_none hq
  obtain ⟨q2, hq⟩ := upd_none hq
  let A : BkA := ⟨dx, n, w, q, fun _ => False, fun _ => False, fun _ => none⟩
  have hdx' : H' dx = some (.own p) := by rw [h5 dx nd n2.symm w2.symm q2.symm, upd_ne nd, upd_same]
  have fv : ∀ x, Five p A x → H x = none ∧ H' x ≠ none := fun x z => by
    rcases z with z | z | z | z | z
    · rw [z]; exact ⟨hp, by rw [h1]; simp⟩
    · rw [z]; exact ⟨hdx, by show H' dx ≠ none; rw [hdx']; simp⟩
    · rw [z]; exact ⟨hn, by show H' n ≠ none; rw [h2]; simp⟩
    · rw [z]; exact ⟨hw, by show H' w ≠ none; rw [h3]; simp⟩
    · rw [z]; exact ⟨hq, by show H' q ≠ none; rw [h4]; simp⟩
  have bz : ∀ x, bkZ p A x → Five p A x := fun x z => z.elim id fun z => z.elim (fun z => (show False from z).elim) fun z => (show False from z).elim
  have eh : Ex H H' := fun x u hx => by
    have nx : ∀ y, H y = none → x ≠ y := fun y hy z => by rw [z, hy] at hx; cases hx
    rw [h5 x (nx p hp) (nx n hn) (nx w hw) (nx q hq), upd_ne (nx p hp), upd_ne (nx dx hdx)]
    exact hx
  have S1 : Sim c O ρ σ F H' := S.grow (Evl.Ex.refl _) eh (fun _ _ f => f) (S.ff.trans eh)
  refine k p A O _ F H' e (S1.setS (j := i) (s := .bk C p A ⟨[], [], []⟩) (o := some (.ref p)) ⟨rfl, fun x z => ⟨S.fresh (fv x (bz x z)).1, (fv x (bz x z)).2⟩, h1, hdx', h2, ⟨[], h3, rfl, .nil⟩, ⟨[], h4, .nil⟩, to5 ⟨⟨np, n1.symm, w1.symm, q1.symm⟩, ⟨n2.symm, w2.symm, q2.symm⟩, ⟨nw, nq⟩, wq⟩, fun x z => (show False from z).elim⟩ fun x z j s o g1 g2 g3 => ?_)
  exact ((S.sl j s o g1 g2).owned g3).2 (fv x (bz x z)).1
theorem q_make {K : PySem.W.Frag} {c : Cq K} {B0 : Hp} {D : Ends} {ρ : Rho} {C : Addr} {E : XK} {i : Nat} {tz : TS} (k : ∀ a A, Go c B0 tz D (ρ.set i (.bk C a A ⟨[], [], []⟩))) : Go c B0 (tSeq (tAsg (L2.tMake C (spInit C) [] E tNil) (gName i)) tz) D ρ := go_make (D := { D with nx := tz D }) k
/-- a class that may be made -/
structure ClI (P : Program) (w : World) (K : PySem.W.Frag) (mg : Str → Option Value) (base : Heap) (k : Nat) (x : Str) (C : Addr) : Prop where
  ex : ∃ (f : Addr) (fd : FuncData), L2.Mk K C f ∧ FnOk P w K mg base CX0 k f fd ["self"] (spInit C) ∧ mg x = some (.ref C) ∧ Binds K fd ["self"] []
theorem pe_mk0 {X : Cx} {k : Nat} {x : Str} {C : Addr} {p pos : Pos} (c : ClI X.prog X.w X.K X.mg X.base k x C) (hr : Room (k + 1) X.A) (hg : Gl X x) (hdb : (x == ("__debug__" : Str)) = false := by decide) : PE X (.Call (.Name x p) [] [] pos) (L2.tMake C (spInit C) [] E0 tNil) := by
  obtain ⟨f, fd, M, F, hm, b⟩ := c.ex
  exact pe_make0 M F hr hg hm b .nil pass0 hdb
theorem k_fld {X : Cx} (K : PySem.W.Frag) {e : Expr} {f : Str} {pos : Pos} {ta : TE} (he : PE X e ta) (hb : attributeBase e f X.env (eval e X.env) = eval e X.env) (h : X.K = K := by rfl) : PE X (.Attribute e f pos) (L2.tFld K ta f) := h ▸ pe_fld he hb
section
variable {P : Program} {w : World} {K : PySem.W.Frag} {mg : Str → Option Value} {base : Heap} {C : Addr} {m qual : Str} {st : Stmt} {N ps : List Str} {k : Nat}
theorem ci_init {f : Addr} {fd : FuncData} {x : Str} (F : Fun K "__init__" qual st f fd) (S : FnScope N ["self"] (defScope st)) (hN : N = (["self"] : List Str)) (T : BkC K C) (M : L2.Mk K C f) (hm : mg x = some (.ref C)) (b : Binds K fd ["self"] [])
    (hbody : ∀ (cdv : Value) (A : Around) (outer : List Env) (s : Shared) (H : Hp) (E : XK), Room k (A.deeper (envOfC qual (defScope st) s.heap.objs.size f cdv)) →
      PSs (cxOf CX0 P w K mg base N qual (defScope st) f cdv A outer s H E).nox (defBody st) (tSeq (L2.sFld K (tVar 0) (tLst tNil) "names") (tSeq (L2.sFld K (tVar 0) L2.tDNewK "works") (L2.sFld K (tVar 0) (tLst tNil) "pairs")))) :
    ClI P w K mg base (k + 1) x C := by
  subst hN
  refine ⟨f, fd, M, F.ok S (fun vs H Q E h => ?_) (fun cdv A outer s H vs Q E hr h => ⟨_, hbody cdv A outer s H E hr, init_walk (E := E) T h⟩), hm, b⟩
  obtain ⟨p, dx, rfl, _⟩ := h
  rfl
/-- a method that is not called -/
theorem cm_none (D : DfnM K C m qual st ps) (S : FnScope N ps (defScope st)) : ClM P w K mg base (L2.CX P w) (k + 1) C m (fun _ _ _ _ => False) := by
  obtain ⟨f, fd, F, hc, hm, b⟩ := D.ex
  exact ⟨f, fd, ps, hc, hm, F.okX S (fun vs H Q E h => h.elim) (fun cdv A outer s H vs Q E hr h => h.elim), b⟩
end
end DL

end
section
set_option maxRecDepth 100000
set_option maxHeartbeats 4000000
/-! a list comprehension out of whose element a call's error leaves -/
namespace DL
open PySem PySem.Spec PyProof.Rows L2
theorem traced_but {h h2 base : Heap} {e C : Addr} {Z : Obj → Prop} {fl : Value} {m : Str → Option Value} (x : HandSPX.TracedZ h base e Z fl) (hn : h.Ns C m) (hs : Heap.SameBut C h h2) : HandSPX.TracedZ h2 base e Z fl := by
  obtain ⟨oe, vs, T, oT, ts, he, hc, hd, h1, hnT, hTe, hT, hdT, h3⟩ := x
  obtain ⟨oL, es, ep, hoL, hdL, _⟩ := hn
  have neE : e ≠ C := fun q => by rw [q, hoL] at he; cases he; rw [hdL] at hd; cases hd
  have neT : T ≠ C := fun q => by rw [q, hoL] at hT; cases hT; rw [hdL] at hdT; cases hdT
  exact ⟨oe, vs, T, oT, ts, (hs.2 e neE).trans he, hc, hd, h1, hnT, hTe, (hs.2 T neT).trans hT, hdT, h3⟩
/-- the block's context: a call's error may come out of its element -/
abbrev blkE (X : Cx) (s : Shared) (H : Hp) (scope : Scope) (cenv : Env) (fp : List Addr) (E : XK) : Cx := { X.blk s H scope cenv fp with xe := fun e s' => ∃ pins σ H' sI, Inv (X.blk s H scope cenv fp) pins σ H' sI ∧ L2.CX X.prog X.w X.stack H' sI E e s' }
theorem inv_xe {X : Cx} {f : Value → Shared → Prop} {pins : List (Addr × Obj)} {σ : L2.St} {H : Hp} {s : Shared} (I : Inv X pins σ H s) : Inv { X with xe := f } pins σ H s :=
  ⟨⟨I.ok.mod, I.ok.kind, I.ok.glob, I.ok.blt, I.ok.above, I.ok.inj, I.ok.has, I.ok.cab, I.ok.hd, I.ok.frames, I.ok.stk, I.ok.exf, I.ok.bs, I.ok.bsz, I.ok.noex, I.ok.exfs, I.ok.funs, I.ok.frf⟩, I.os, I.bare, I.base, I.loc, I.cell, I.free, I.freeC, I.pin, I.hok, I.len⟩
theorem inv_back {X : Cx} {f : Value → Shared → Prop} {pins : List (Addr × Obj)} {σ : L2.St} {H : Hp} {s : Shared} (I : Inv { X with xe := f } pins σ H s) : Inv X pins σ H s :=
  ⟨⟨I.ok.mod, I.ok.kind, I.ok.glob, I.ok.blt, I.ok.above, I.ok.inj, I.ok.has, I.ok.cab, I.ok.hd, I.ok.frames, I.ok.stk, I.ok.exf, I.ok.bs, I.ok.bsz, I.ok.noex, I.ok.exfs, I.ok.funs, I.ok.frf⟩, I.os, I.bare, I.base, I.loc, I.cell, I.free, I.freeC, I.pin, I.hok, I.len⟩
/-- what a call in the element may let out -/
theorem passE {X : Cx} {s : Shared} {H : Hp} {scope : Scope} {cenv : Env} {fp : List Addr} {E : XK} : Passes (L2.CX X.prog X.w) (blkE X s H scope cenv fp E) E := fun pins σ H' sI e s' I h => ⟨pins, σ, H', sI, inv_back I, h⟩
section
variable {X : Cx} {scope : Scope} {E : XK}
/-- the error in the block is one in the def's air, once the block is let go -/
theorem out_of_block {pins : List (Addr × Obj)} {σ0 : L2.St} {s3 : Shared} {H3 : Hp} {ce : Env} {fp : List Addr} {W : WX} {e : Value} {s' : Shared} (tk : Takes X W) (hW : ∀ cls d σ H, E cls d H → W cls d σ H)
    (hs : X.stack = X.env :: X.outer) (hf : X.env.frame = some X.env.locals) (hcf : ce.frame = X.env.frame) (hcl : ce.locals = s3.heap.objs.size) (I3 : Inv X pins σ0 H3 s3) (f3 : ∀ b ∈ fp, FpOk X pins H3 b)
    (h : (blkE X s3 H3 scope ce fp E).xe e s') : notedBy (model X.prog X.w) X.A ce (CompFails (model X.prog X.w) X.A X.xe ce) e s' := by
  obtain ⟨pb, σb, Hb, sb, Ib, c⟩ := h
  obtain ⟨a, B, sI, pi, σi, H', cls, d, rfl, I, nb, up, sky, na, os, ag, w⟩ := XE.of_call (W := fun cls d _ H => E cls d H) Ib (fun _ _ _ h => h) c
  have hL : (X.blk s3 H3 scope ce fp).env.locals = ce.locals := rfl
  obtain ⟨m, hn, _⟩ := I.loc
  have hn : sI.heap.Ns ce.locals m := hn
  have hC : H' ce.locals = none := I.free
  have stE : (X.blk s3 H3 scope ce fp).stack = X.stack := rfl
  rw [stE] at nb sky
  have hfr : X.A.frames = some (X.env :: X.outer) := by rw [I3.ok.frames, hs]
  have nF : ce.locals ∉ frs X.stack := fun hm => by
    have z := I3.stack.mem hm
    obtain ⟨_, o, ho, _⟩ := z
    rw [hcl] at ho
    exact absurd (Heap.lt_size ho) (Nat.lt_irrefl _)
  -- in flight over the def's frames
  have fl : HandSPX.FlyingZ B X.stack a (Zc cls d) s'.heap := by
    obtain ⟨a', B', H'', cls', d', e', fl', _⟩ := c
    rcases sky with ⟨_, _, _, oe, vs, he, hz, hd, h1⟩ | fl | hh
    · cases e'
      obtain ⟨_, _, _, oe', vs', T, oT, ts, he', hz', hd', h1', _⟩ := fl'
      rw [he] at he'
      cases he'
      rw [hd] at hd'
      cases hd'
      rw [h1] at h1'
      cases h1'
    · exact fl
    · cases e'
      obtain ⟨_, _, _, oe, vs, T, oT, ts, he, hz, hd, h1, hn, hne, hT, hdT, h3⟩ := hh
      obtain ⟨_, _, _, oe', vs', T', oT', ts', he', hz', hd', h1', hn', hne', hT', hdT', h3'⟩ := fl'
      rw [he] at he'
      cases he'
      rw [hd] at hd'
      cases hd'
      rw [h1] at h1'
      cases h1'
      rw [hT] at hT'
      cases hT'
      rw [hdT] at hdT'
      cases hdT'
      rw [h3] at h3'
      cases h3'
  have hokB : HOk X.prog X.w H' B := I.inGround nb
  rw [hs] at fl
  show wpAny (model X.prog X.w) X.A (noteFrame (.ref a) ce) _ _ s'
  rw [noteFrame_env _ hcf]
  refine HandSPX.looks_onZ Zc.steady hfr hf fl fun h1 hh1 up1 => ?_
  rw [← hs] at hh1
  have hn1 : h1.Ns ce.locals m := hn.upToSlots fun b o q z => (up.trans up1) b o q z
  refine ⟨m, hn1, fun h2 m2 hn2 hs2 => ?_⟩
  -- the ground without the block
  generalize hB2 : PySem.W.hideAll B [ce.locals] = B2
  have sub : ∀ b o, B2.get? b = some o → B.get? b = some o ∧ b ≠ ce.locals := fun b o q => by
    rw [← hB2] at q
    refine ⟨PySem.W.of_hideAll _ q, fun z => ?_⟩
    rw [z, PySem.W.hideAll_none _ List.mem_cons_self] at q
    cases q
  have sup : ∀ b o, B.get? b = some o → b ≠ ce.locals → B2.get? b = some o := fun b o q z => by
    rw [← hB2]
    exact PySem.W.hideAll_get _ q fun hm => z (by simpa using hm)
  have none2 : ∀ b, B.get? b = none → B2.get? b = none := fun b q => by
    cases z : B2.get? b with
    | none => rfl
    | some o => rw [(sub b o z).1] at q; cases q
  obtain ⟨b1, b0, ff1, t1⟩ := hh1
  have ff1' : h1.FunFrames B2 X.stack := funFrames_none ff1 fun L hL => by
    obtain ⟨q, _⟩ := ff1.mem hL
    exact none2 L q
  have t1' : HandSPX.TracedZ h1 B2 a (Zc cls d) (rawInt X.env.locals) := by
    obtain ⟨oe, vs, T, oT, ts, he, hz, hd, g1, gn, gr⟩ := t1
    exact ⟨oe, vs, T, oT, ts, he, hz, hd, g1, none2 T gn, gr⟩
  have hh2 : HandSPX.HeldZ B2 X.stack a (Zc cls d) X.env.locals h2 := ⟨fun b o q => (hs2.2 b (sub b o q).2).trans (b1 b o (sub b o q).1), none2 a b0, Heap.FunFrames.sameBut hs2 hn2 ff1', traced_but t1' hn1 hs2⟩
  have t2 := hh2.2.2.2
  obtain ⟨oe, vs, T, oT, ts, he, hz, hd, g1, gr⟩ := t2
  unfold PySem.passOn
  refine wpAny_bind (wpAny_field he hd g1 ?_)
  rw [if_neg (show ¬ ((Value.ref T == Value.none) = true) from by simp)]
  rw [hcf, hf]
  refine wpAny_bind (HandSPX.setFlight_onZ hh2 fun h4 hh4 up4 => wpAny_throw ?_)
  obtain ⟨G, gd, gn⟩ := restrict h4 fun b => (B2.get? b).isSome || decide (b ∈ frs X.stack)
  have st4 : B2.StaysIn h4 := hh4.1
  have gB : ∀ b o, B2.get? b = some o → G.get? b = some o := fun b o q => by
    rw [gd b (by simp [q])]
    exact st4 b o q
  have gF : ∀ b, b ∈ frs X.stack → G.get? b = h4.get? b := fun b hb => gd b (by simp [hb])
  have og : ∀ b o, G.get? b = some o → h4.get? b = some o ∧ ((B2.get? b).isSome = true ∨ b ∈ frs X.stack) := fun b o q => by
    cases z : ((B2.get? b).isSome || decide (b ∈ frs X.stack)) with
    | false => rw [gn b z] at q; cases q
    | true =>
      rw [gd b z] at q
      exact ⟨q, by simpa [Bool.or_eq_true] using z⟩
  have hokB2 : HOk X.prog X.w H' B2 := fun b o q => (hokB b o q).stay (fun c u hc r => sup c u r fun z => by
    rw [z] at hc
    rcases hc with hc | hc
    · rw [← hc, hC] at q; cases q
    · rw [hC] at hc; cases hc) (fun _ r => r) fun _ _ r => r
  have fr4 : ∀ b, b ∈ frs X.stack → ∀ o, sI.heap.get? b = some o → (∀ vs, o.data ≠ .fields vs) → ∃ sl, h4.get? b = some { o with slots := sl } := fun b hb o q nd => by
    obtain ⟨sl1, q1⟩ := (up.trans up1) b o q nd
    have q2 := (hs2.2 b fun z => nF (by rw [← z]; exact hb)).trans q1
    obtain ⟨sl2, q3⟩ := up4 b _ q2 nd
    exact ⟨sl2, q3⟩
  have ub := I.base
  have lt3 : ∀ b o, s3.heap.get? b = some o → b ≠ ce.locals := fun b o q z => by
    rw [z, hcl] at q
    exact absurd (Heap.lt_size q) (Nat.lt_irrefl _)
  have U : Un (frs X.stack) fp H3 H' s3.heap G := by
    refine ⟨fun b o q n hb hx => ?_, fun b o q n hb hx => ?_, ub.free, fun b o q hx => ?_, ub.tups, ub.frzs, ub.tbls⟩
    · exact gB b o (sup b o (nb b o (ub.keep b o q n hb hx) hb) (lt3 b o q))
    · obtain ⟨sl, q1⟩ := ub.slot b o q n hb hx
      obtain ⟨_, o', e', nd⟩ := I3.stack.mem hb
      rw [q] at e'
      cases e'
      obtain ⟨sl2, q2⟩ := fr4 b hb _ q1 nd
      exact ⟨sl2, by rw [gF b hb]; exact q2⟩
    · obtain ⟨o', q1⟩ := ub.there b o q hx
      by_cases hb : b ∈ frs X.stack
      · obtain ⟨_, o2, e2, nd⟩ := I3.stack.mem hb
        rw [q] at e2
        cases e2
        have n3 : H3 b = none := I3.stkFree b hb
        obtain ⟨sl, q2⟩ := ub.slot b o q n3 hb hx
        obtain ⟨sl2, q3⟩ := fr4 b hb _ q2 nd
        exact ⟨_, by rw [gF b hb]; exact q3⟩
      · exact ⟨o', gB b o' (sup b o' (nb b o' q1 hb) (lt3 b o q))⟩
  have J : Inv X pins σ0 H' { sI with heap := G } := I3.call' (ch := fp) I.os U (hokB2.kept gB) I.bare fun b hb => ⟨(f3 b hb).2.2.2.1, (f3 b hb).2.1, (f3 b hb).2.2.2.2.1, (f3 b hb).2.2.2.2.2⟩
  refine tk (.ref a) _ ⟨a, B2, _, pins, σ0, H', cls, d, rfl, J, fun b o q hb => ?_, Heap.UpToSlots.of_keeps fun b o q => (og b o q).1, .inr (.inr hh4), na, os, ag, hW _ _ _ _ w⟩
  obtain ⟨q1, q2⟩ := og b o q
  rcases q2 with q2 | q2
  · obtain ⟨o', q3⟩ := Option.isSome_iff_exists.mp q2
    have z := st4 b o' q3
    rw [q1] at z
    cases z
    exact q3
  · exact absurd q2 hb
/-- the whole comprehension, an error of its element's calls let out -/
theorem lcE_core {pins : List (Addr × Obj)} {s : Shared} {σ : L2.St} {H : Hp} {Q : VK} {el tg src : Expr} {cs : List Expr} {own : List (Str × Nat)} {pos p2 : Pos} {wi : TI} {g : TG} {tt : TT} {te : TE} {use : Option (Value → Sem Unit)} {Qf : Value → Shared → Prop} {W : WX}
    (hc : X.calm = true) (hN : X.N.Nodup) (I : Inv X pins σ H s) (hi : PI X tg src wi) (ok : BlkOk X.N X.env.scope scope own) (tk : Takes X W) (hW : ∀ cls d σ H, E cls d H → W cls d σ H) (hst : X.stack = X.env :: X.outer) (hfr : X.env.frame = some X.env.locals)
    (hg : ∀ (s : Shared) (H : Hp) (C : Addr) (cl : List (Str × Addr)) (fp : List Addr), PG (X.blk s H scope (compEnvC scope cl C X.env) fp) tg g)
    (ht : ∀ (s : Shared) (H : Hp) (C : Addr) (cl : List (Str × Addr)) (fp : List Addr), PTs (X.blk s H scope (compEnvC scope cl C X.env) fp) cs tt)
    (he : ∀ (s : Shared) (H : Hp) (C : Addr) (cl : List (Str × Addr)) (fp : List Addr), PE (blkE X s H scope (compEnvC scope cl C X.env) fp E) el te) (hs : ∀ x, foldedSetIterable src X.env x = pure x)
    (h : tLc wi g tt te (own.map (·.2)) σ H Q)
    (hend : ∀ Dl C s' m H' (ce : Env), ce.locals = C → Inv X pins σ H' s' → Q (.ref Dl) H' → s'.heap.Ns C m → FpOk X pins H' C → compEnds (model X.prog X.w) X.A X.xe use Qf (.ref Dl) ce (.ok .next) s') :
    wpAny (model X.prog X.w) X.A (comprehension (.ListComp el [⟨tg, src, cs, 0⟩] scope pos) scope X.env p2 (newList []) false (eval src X.env) use) Qf X.xe s := by
  have frees : ∀ y ∈ scope.names, y.2 = .free → ∃ c, X.env.cells.lookup y.1 = some c := fun y hy e => by
    rcases ok.free y hy e with k | k
    · exact I.ok.has _ (.inl k)
    · exact I.ok.has _ (.inr k)
  refine comprehension_at (use := use) rfl hs (closure_ok frees) ok.kind (fun y hy e => by rw [ok.uniq y hy, e]) (thn (hi.run pins s σ H _ I h) fun xv s1 hx => thn hx fun itv s2 h2 => ?_)
  obtain ⟨it, fp, tn, J, H2, e, I2, T, st2, f2, q⟩ := h2
  subst e
  refine wpAny_newObj_type (newEnv_comp ?_) (by show 0 ≤ sizeLine; decide)
  generalize eD : s2.heap.objs.size = Dl
  have nD : H2 Dl = none := I2.hok.fresh (Nat.le_of_eq eD)
  obtain ⟨Wt, ⟨m0, w0⟩, turn⟩ := q Dl nD
  generalize es3 : ({ s2 with heap := s2.heap.push { cls := .type "list", data := .seq ([] : List Value).toArray } } : Shared) = s3
  have I3 : Inv X pins σ (upd H2 Dl (.lst [])) s3 := by
    rw [← es3]
    exact I2.laid (t' := s2.toks) (fun b o e => Heap.get?_push_of_some _ e) (Nat.le_of_eq eD) ⟨Nat.zero_le _, [], 0, .nil, by rw [← eD]; exact Heap.get?_push_size _ rfl⟩
  have h3 : s3.heap = s2.heap.push { cls := .type "list", data := .seq ([] : List Value).toArray } := by rw [← es3]
  have szs : ∀ b ∈ fp, b < s2.heap.objs.size := fun b hb => by
    obtain ⟨o, e, _⟩ := T.obj _ _ st2 b hb
    exact Heap.lt_size e
  have f3 : ∀ b ∈ fp, FpOk X pins (upd H2 Dl (.lst [])) b ∧ b < s3.heap.objs.size := fun b hb => by
    have l := szs b hb
    exact ⟨⟨by rw [upd_ne (by rw [← eD]; exact Nat.ne_of_lt l)]; exact (f2 b hb).1, (f2 b hb).2⟩, by rw [h3, Heap.size_push]; exact Nat.lt_succ_of_lt l⟩
  have st3 : tn 0 s3.heap := T.keep _ _ _ st2 fun b _ o e => by rw [h3]; exact Heap.get?_push_of_some _ e
  have I4 := block_start I3 ok hN f3
  generalize ecl : cellsFrom (s3.heap.objs.size + 1) scope.names (cloFrom X.env.cells scope.names []) = cl at I4
  have pg := hg s3 (upd H2 Dl (.lst [])) s3.heap.objs.size cl fp
  have pt := ht s3 (upd H2 Dl (.lst [])) s3.heap.objs.size cl fp
  have pe := he s3 (upd H2 Dl (.lst [])) s3.heap.objs.size cl fp
  show codeAny _ _ (.compStart (.ListComp el [⟨tg, src, cs, 0⟩] scope pos) 0 (.ref it) (.ref Dl) (compEnvC scope cl s3.heap.objs.size X.env)) (compEnds (model X.prog X.w) X.A X.xe use Qf (.ref Dl) (compEnvC scope cl s3.heap.objs.size X.env)) { s3 with heap := pushCells (s3.heap.push { cls := .type "dict", data := .dict #[] }) scope.names }
  have nfp : ∀ b ∈ fp, (upd H2 Dl (.lst [])) b = none := fun b hb => (f3 b hb).1.1
  generalize ece : compEnvC scope cl s3.heap.objs.size X.env = ce at I4 pg pt pe ⊢
  have cL : ce.locals = s3.heap.objs.size := by rw [← ece]; rfl
  have cF : ce.frame = X.env.frame := by rw [← ece]; rfl
  generalize eH3 : upd H2 Dl (.lst []) = H3 at I3 I4 pg pt pe w0 nfp f3
  generalize es4 : ({ s3 with heap := pushCells (s3.heap.push { cls := .type "dict", data := .dict #[] }) scope.names } : Shared) = s4 at I4 ⊢
  have st4 : tn 0 s4.heap := T.keep _ _ _ st3 fun b _ o e => by rw [← es4]; exact pushCells_keeps _ _ _ _ (Heap.get?_push_of_some _ e)
  have stat : ∀ {σ' : L2.St} {H' : Hp} {s' : Shared}, Inv (X.blk s3 H3 scope ce fp) [] σ' H' s' → (∀ b ∈ fp, H' b = none) → ∀ b ∈ fp, FpOk (X.blk s3 H3 scope ce fp) [] H' b := fun {σ' H' s'} I' hn b hb =>
    ⟨hn b hb, (I'.ok.exf b hb).1, I'.ok.exfs b hb, .inl hb, fun x c e => (I'.ok.exf b hb).2 x c e, fun p hp => by cases (show p ∈ ([] : List (Addr × Obj)) ++ [] from hp)⟩
  have loop : codeAny (model X.prog X.w) X.A (.compLoop (.ListComp el [⟨tg, src, cs, 0⟩] scope pos) 0 (.ref it) (.ref Dl) ce) (compEnds (model X.prog X.w) X.A X.xe use Qf (.ref Dl) ce) s4 := by
    refine compLoop_any (fun n s' => ∃ i H', Inv (X.blk s3 H3 scope ce fp) [] (wipe σ (own.map (·.2))) H' s' ∧ tn i s'.heap ∧ (∀ b ∈ fp, H' b = none) ∧ Wt i n H') ?_ m0 ⟨0, H3, I4, st4, nfp, w0⟩
    rintro n s5 ⟨i, H5, I5, st5, n5, w5⟩
    rcases turn i n H5 w5 with ⟨stop, qq⟩ | ⟨go, Nx, hNx, step⟩
    · refine thnF (T.done (X.blk s3 H3 scope ce fp) rfl rfl rfl hc i [] s5 _ H5 (fun _ _ => False) I5 (stat I5 n5) st5 stop) fun r s6 ⟨hr, I6⟩ => ?_
      subst hr
      have I7 : Inv X pins σ H5 s6 := I3.call' (ch := fp) I6.os I6.base I6.hok I6.bare fun b hb => ⟨(f3 b hb).1.2.2.2.1, (f3 b hb).1.2.1, (f3 b hb).1.2.2.2.2.1, (f3 b hb).1.2.2.2.2.2⟩
      have nC : H5 s3.heap.objs.size = none := by rw [← cL]; exact I6.free
      obtain ⟨m, hn, _⟩ := I6.loc
      have hn : s6.heap.Ns ce.locals m := hn
      rw [cL] at hn
      exact hend Dl s3.heap.objs.size s6 m H5 ce cL I7 qq hn (I3.fpOk (Nat.le_refl _) nC)
    · refine thnF (T.item (X.blk s3 H3 scope ce fp) rfl rfl rfl hc i [] s5 _ H5 (fun _ _ => False) I5 (stat I5 n5) st5 go) fun r s6 ⟨u, hr, h6⟩ => ?_
      subst hr
      refine thnF h6 fun _ s7 ⟨x, H7, I7, r7, y7, st7, n7⟩ => ?_
      have I7' := I7.pinned (stat I7 n7) (T.obj _ _ st7)
      refine thnF (pg.run _ s7 _ H7 x u _ I7' r7 (step x H7 y7)) fun _ s8 ⟨σ8, H8, I8, hw8, q8⟩ => ?_
      refine thnF (pt.run _ s8 σ8 H8 _ I8 q8) fun b s9 ⟨H9, I9, q9⟩ => ?_
      have fin : ∀ {s' : Shared} {H' : Hp}, Inv (X.blk s3 H3 scope ce fp) ([] ++ pinsAt fp s7.heap) σ8 H' s' → Nx H' → ∃ m, m < n ∧ ∃ i H', Inv (X.blk s3 H3 scope ce fp) [] (wipe σ (own.map (·.2))) H' s' ∧ tn i s'.heap ∧ (∀ b ∈ fp, H' b = none) ∧ Wt i m H' := fun {s' H'} I' nx => by
        obtain ⟨m', hm, w'⟩ := hNx H' nx
        have pin' : ∀ b ∈ fp, ∀ o, s7.heap.get? b = some o → s'.heap.get? b = some o ∧ H' b = none := fun b hb o e =>
          let z := I'.pin (b, o) (List.mem_append_right _ (List.mem_append_right _ (mem_pinsAt hb e)))
          ⟨z.1, z.2.1⟩
        refine ⟨m', hm, i + 1, H', (I'.unpinned (pins := [])).weak (by rw [← hw8, wipe_length]) (fun j v e => by rw [← hw8] at e; exact (wipe_some e).1), T.keep _ _ _ st7 fun b hb o e => (pin' b hb o e).1, fun b hb => ?_, w'⟩
        obtain ⟨o, e, _⟩ := T.obj _ _ st7 b hb
        exact (pin' b hb o e).2
      cases b with
      | false =>
        simp only [Bool.false_eq_true, if_false] at q9 ⊢
        exact fin I9 q9
      | true =>
        simp only [if_true] at q9 ⊢
        refine wpAny_mono (pe.run _ s9 σ8 H9 _ (inv_xe I9) q9) (fun z s10 ⟨yv, H10, I10, r10, acc, hD10, hz10, nx⟩ => ?_) fun e s10 hx => ?_
        · exact app_ok (X := X.blk s3 H3 scope ce fp) (inv_back I10) hD10 hz10 r10 fun s11 I11 => fin I11 nx
        · have o := out_of_block (ce := ce) tk hW hst hfr cF cL I3 (fun b hb => (f3 b hb).1) hx
          cases use <;> exact o
  exact codeAny_compStart_list loop (T.self X.A 0 _ _ _ st4 loop)
/-- name = [..] on one line -/
theorem ps_setLcE {i : Nat} {y : Str} {py : Pos} {el tg src : Expr} {cs : List Expr} {own : List (Str × Nat)} {pos spos : Pos} {wi : TI} {g : TG} {tt : TT} {te : TE} {W : WX} (tk : Takes X W) (hW : ∀ cls d σ H, E cls d H → W cls d σ H) (hst : X.stack = X.env :: X.outer) (hfr : X.env.frame = some X.env.locals)
    (hc : X.calm = true) (hN : X.N.Nodup) (hy : X.N[i]? = some y) (hyl : X.env.scope.names.lookup y = some .local)
    (hsw : swapsWith (.ListComp el [⟨tg, src, cs, 0⟩] scope pos) (some (.Name y py)) spos.line X.env = pure true) (hi : PI X tg src wi) (ok : BlkOk X.N X.env.scope scope own)
    (hg : ∀ (s : Shared) (H : Hp) (C : Addr) (cl : List (Str × Addr)) (fp : List Addr), PG (X.blk s H scope (compEnvC scope cl C X.env) fp) tg g)
    (ht : ∀ (s : Shared) (H : Hp) (C : Addr) (cl : List (Str × Addr)) (fp : List Addr), PTs (X.blk s H scope (compEnvC scope cl C X.env) fp) cs tt)
    (he : ∀ (s : Shared) (H : Hp) (C : Addr) (cl : List (Str × Addr)) (fp : List Addr), PE (blkE X s H scope (compEnvC scope cl C X.env) fp E) el te) (hs : ∀ x, foldedSetIterable src X.env x = pure x := by intro _; rfl) :
    PS X (.Assign [.Name y py] (.ListComp el [⟨tg, src, cs, 0⟩] scope pos) spos) (tAsg (tLc wi g tt te (own.map (·.2))) (gName i)) := by
  refine ⟨fun pins s σ H D I h => ?_⟩
  rw [exec_Assign_Name_used _ _ _ _ hsw]
  refine wpAny_bind (wpAny_standAt (wpAny_bind ?_))
  show wpAny _ X.A (do let _ ← comprehension (.ListComp el [⟨tg, src, cs, 0⟩] scope pos) scope X.env (firstIterPos [⟨tg, src, cs, 0⟩] pos) (newList []) false (eval src X.env) (some (assign (.Name y py) X.env))) _ _ s
  have h : tLc wi g tt te (own.map (·.2)) σ H (fun x H1 => gName i x σ H1 D.nx) := h
  refine wpAny_bind (thn (lcE_core (Qf := fun _ s' => SP X pins D .next s') hc hN I hi ok tk hW hst hfr hg ht he hs h fun L C s' m H' ce eC I' q hn f => ?_) fun _ s' hq => wpAny_pure (wpAny_pure hq))
  show wpAny _ _ (assign (.Name y py) X.env (.ref L)) _ _ _
  refine wpAny_assign_Name (store_ok2 (v := V.ref L) I' hN hy (.inl hyl) rfl (fun s2 I2 ⟨a, sb, ha⟩ => ?_) (.inr hyl))
  obtain ⟨f0, f1, f2, f3, f4, f5⟩ := f
  have haC : C ≠ a := by
    rcases ha with z | z
    · rw [z]; exact f1
    · exact fun e => f4 y a z e.symm
  refine ⟨m, by rw [eC]; exact hn.sameBut sb haC, fun h3 sb3 => ?_⟩
  rw [eC] at sb3
  exact ⟨_, H', I2.turned (t' := s2.toks) (fun b o hb e => (sb3.2 b hb).trans e) f0 f1 f3 f4 f5, q⟩
end
end DL

end
section
set_option maxRecDepth 100000
set_option maxHeartbeats 2000000
/-! a book in plain words: what rows do to it, what they are refused with -/
namespace DL
open PySem PySem.Spec PyProof.Rows L2
def figs : Str := "0123456789"
def letts : Str := "abcdefghijklmnopqrstuvwxyz"
def okN (z : Str) : Bool := (!(decide ((z.length : Int) = 0) || decide ((z.length : Int) > 30)) && allZ z figs) && !(decide (z.cps.toList.head? = some 48) && !decide (z = "0"))
def nameZ (z : Str) : Bool := !(decide ((z.length : Int) = 0) || decide ((z.length : Int) > 8)) && allZ z letts
def hasB (B : Bk) (x : Str) : Bool := (sval B.works x).isSome
def nIx (ns : List Str) (x : Str) : Int := ((ns.idxOf x : Nat) : Int)
def pI (ns : List Str) (p : Str × Str) : Int × Int := (nIx ns p.1, nIx ns p.2)
def pIx (B : Bk) : List (Int × Int) := B.pairs.map (pI B.names)
structure BkOk (B : Bk) : Prop where
  nm : B.names = B.works.map (·.1)
  nd : B.names.Nodup
  le : B.names.length ≤ 8
  nz : ∀ n ∈ B.names, nameZ n = true
  pr : ∀ p ∈ B.pairs, p.1 ∈ B.names ∧ p.2 ∈ B.names
  pl : B.pairs.length ≤ 100
theorem letts_tl : letts.cps.toList = [97, 98, 99, 100, 101, 102, 103, 104, 105, 106, 107, 108, 109, 110, 111, 112, 113, 114, 115, 116, 117, 118, 119, 120, 121, 122] := by decide +kernel
theorem letts_mem {n : Nat} (h : n ∈ letts.cps.toList) : 97 ≤ n ∧ n ≤ 122 := by
  rw [letts_tl] at h
  simp only [List.mem_cons, List.not_mem_nil, or_false] at h
  omega
theorem name_of {z : Str} (h : nameZ z = true) : 1 ≤ z.length ∧ z.length ≤ 8 ∧ ∀ n ∈ z.cps.toList, 97 ≤ n ∧ n ≤ 122 := by
  unfold nameZ at h
  rw [Bool.and_eq_true] at h
  obtain ⟨h1, h2⟩ := h
  simp at h1
  refine ⟨by omega, by omega, fun n hn => ?_⟩
  unfold allZ at h2
  exact letts_mem (of_decide_eq_true (List.all_eq_true.mp h2 n hn))
theorem name_ok {z : Str} (h : nameZ z = true) : PyData.strOk z = true := by
  unfold PyData.strOk
  rw [Array.all_eq_true']
  intro n hn
  have := (name_of h).2.2 n (by rw [Array.mem_toList_iff]; exact hn)
  simp
  omega
theorem nice_prD {p : Str × Str} (h1 : nameZ p.1 = true) (h2 : nameZ p.2 = true) : Nice 1 (prD p) := nice_two (nice_str 0 (name_ok h1)) (nice_str 0 (name_ok h2))
/-! ### the book told by its data -/
theorem strs_inj {xs ys : List Str} (h : xs.map PyData.str = ys.map PyData.str) : xs = ys := by
  have : PyData.list (xs.map PyData.str) = PyData.list (ys.map PyData.str) := by rw [h]
  exact (map_inj (f := PyData.str) (by simp)).mp this
theorem prD_inj {a b : Str × Str} : prD a = prD b ↔ a = b := by
  unfold prD
  constructor
  · intro h
    injection h with h
    injection h with h1 h2
    injection h1 with h1
    injection h2 with h2 _
    injection h2 with h2
    exact Prod.ext h1 h2
  · intro h; rw [h]
theorem sdicD_inj : ∀ {xs ys : List (Str × PyData)}, sdicD xs = sdicD ys → xs = ys
  | [], [], _ => rfl
  | [], _ :: _, h => by unfold sdicD at h; injection h with h; cases h
  | _ :: _, [], h => by unfold sdicD at h; injection h with h; cases h
  | x :: xs, y :: ys, h => by
    unfold sdicD at h
    injection h with h
    rw [List.map_cons, List.map_cons] at h
    injection h with h1 h2
    injection h1 with h3 h4
    injection h3 with h3
    rw [show xs = ys from sdicD_inj (by unfold sdicD; rw [h2]), show x = y from Prod.ext h3 h4]
theorem wkD_inj : ∀ {xs ys : List (Str × (Int × Int × Int))}, wkD xs = wkD ys → xs = ys
  | [], [], _ => rfl
  | [], _ :: _, h => by cases h
  | _ :: _, [], h => by cases h
  | x :: xs, y :: ys, h => by
    unfold wkD at h
    rw [List.map_cons, List.map_cons] at h
    injection h with h1 h2
    injection h1 with h3 h4
    rw [show xs = ys from wkD_inj h2, show x = y from Prod.ext h3 (wD_inj.mp h4)]
theorem bkD_inj {C C' : Addr} {B B' : Bk} (h : bkD C B = bkD C' B') : C = C' ∧ B = B' := by
  unfold bkD insD bkF at h
  simp only [List.map_cons, List.map_nil] at h
  injection h with h
  injection h with h0 h
  injection h0 with _ h0
  injection h0 with h0
  injection h with h1 h
  injection h with h2 h
  injection h with h3 _
  injection h1 with _ h1
  injection h2 with _ h2
  injection h3 with _ h3
  injection h1 with h1
  injection h3 with h3
  have h3' : PyData.list (B.pairs.map prD) = PyData.list (B'.pairs.map prD) := by rw [h3]
  obtain ⟨n, w, p⟩ := B
  obtain ⟨n', w', p'⟩ := B'
  have e1 := strs_inj h1
  have e2 := wkD_inj (sdicD_inj h2)
  have e3 := (map_inj prD_inj).mp h3'
  dsimp only at e1 e2 e3
  exact ⟨Int.ofNat.inj h0, by rw [e1, e2, e3]⟩
theorem has_mem {B : Bk} (h : BkOk B) {x : Str} : hasB B x = true ↔ x ∈ B.names := by
  unfold hasB
  rw [h.nm, ← sval_any, List.any_eq_true]
  constructor
  · rintro ⟨p, hp, e⟩
    exact List.mem_map.mpr ⟨p, hp, of_decide_eq_true e⟩
  · intro hx
    obtain ⟨p, hp, e⟩ := List.mem_map.mp hx
    exact ⟨p, hp, decide_eq_true e⟩
theorem has_val {B : Bk} {x : Str} (h : hasB B x = true) : ∃ w, sval B.works x = some w := by
  unfold hasB at h
  exact Option.isSome_iff_exists.mp h
theorem sval_wk {ws : List (Str × (Int × Int × Int))} {x : Str} : (sval (wkD ws) x).isSome = (sval ws x).isSome := by
  unfold wkD
  rw [sval_map]
  cases sval ws x <;> rfl
theorem sval_wkS {ws : List (Str × (Int × Int × Int))} {x : Str} {w : Int × Int × Int} (h : sval ws x = some w) : sval (wkD ws) x = some (wD w) := by
  unfold wkD
  rw [sval_map, h]
  rfl
/-! the rows in their order -/
theorem sval_self : ∀ {ws : List (Str × (Int × Int × Int))}, (ws.map (·.1)).Nodup → ∀ {q : Str × (Int × Int × Int)}, q ∈ ws → sval ws q.1 = some q.2
  | [], _, _, h => by cases h
  | p :: ws, nd, q, h => by
    rw [sval_cons]
    rw [List.map_cons, List.nodup_cons] at nd
    rcases List.mem_cons.mp h with rfl | h
    · rw [if_pos rfl]
    · rw [if_neg fun e => nd.1 (by rw [e]; exact List.mem_map.mpr ⟨q, h, rfl⟩)]
      exact sval_self nd.2 h
/-! places of names -/
theorem idx_at {ns : List Str} {x : Str} (h : x ∈ ns) : ns[ns.idxOf x]? = some x ∧ ∀ m : Nat, m < ns.idxOf x → ns[m]? ≠ some x := by
  have hl := List.idxOf_lt_length_iff.mpr h
  refine ⟨by rw [List.getElem?_eq_getElem hl, List.getElem_idxOf], fun m hm e => ?_⟩
  have := List.not_of_lt_findIdx (p := (· == x)) (xs := ns) (i := m) hm
  obtain ⟨h1, h2⟩ := List.getElem?_eq_some_iff.mp e
  simp [h2] at this
/-! ### rows -/
inductive Er
  | order | room | row | name | text
  deriving DecidableEq
def erA (O R W N T : Addr) : Er → Addr
  | .order => O
  | .room => R
  | .row => W
  | .name => N
  | .text => T
def saidB : List Str → Bool
  | [] => false
  | f :: r => if f = "work" then decide (r.length = 4) else if f = "need" ∨ f = "free" then decide (r.length = 2) else
    if f ∈ (["drop", "show", "price", "plan", "why", "spare", "budget", "bonus"] : List Str) then decide (r.length = 1) else decide (f ∈ (["names", "ends", "curve"] : List Str)) && decide (r.length = 0)
theorem saidB_cons (f : Str) (r : List Str) : saidB (f :: r) = if f = "work" then decide (r.length = 4) else if f = "need" ∨ f = "free" then decide (r.length = 2) else
    if f ∈ (["drop", "show", "price", "plan", "why", "spare", "budget", "bonus"] : List Str) then decide (r.length = 1) else decide (f ∈ (["names", "ends", "curve"] : List Str)) && decide (r.length = 0) := rfl
/-- a work put in is refused -/
inductive PwErr (B : Bk) (n u l p : Str) : Er → Prop
  | name : nameZ n = false → PwErr B n u l p .name
  | text : nameZ n = true → (okN u && (okN l && okN p)) = false → PwErr B n u l p .text
  | less : nameZ n = true → okN u = true → okN l = true → okN p = true → valZ u < valZ l → PwErr B n u l p .text
  | room : nameZ n = true → okN u = true → okN l = true → okN p = true → valZ l ≤ valZ u → hasB B n = false → B.names.length = 8 → PwErr B n u l p .room
def NeedIn (B : Bk) (a b : Str) : List (Int × Int) := pIx B ++ [(nIx B.names a, nIx B.names b)]
inductive PnErr (B : Bk) (a b : Str) : Er → Prop
  | name : (hasB B a && hasB B b) = false → PnErr B a b .name
  | order : hasB B a = true → hasB B b = true → ¬ MQ.Dag B.names.length (NeedIn B a b) → PnErr B a b .order
/-- what a row that changes the book is refused with -/
inductive CErr (B : Bk) : List Str → Er → Prop
  | work {n u l p : Str} {e : Er} : PwErr B n u l p e → CErr B ["work", n, u, l, p] e
  | need {a b : Str} {e : Er} : PnErr B a b e → CErr B ["need", a, b] e
  | free {a b : Str} : (hasB B a && hasB B b) = false → CErr B ["free", a, b] .name
  | drop {a : Str} : hasB B a = false → CErr B ["drop", a] .name
inductive SErr (B : Bk) : List Str → Er → Prop
  | row {ws : List Str} : saidB ws = false → SErr B ws .row
  | chg {ws : List Str} {e : Er} : CErr B ws e → SErr B ws e
  | shw {a : Str} : hasB B a = false → SErr B ["show", a] .name
  | num {f z : Str} : f ∈ (["price", "plan", "why", "spare", "budget", "bonus"] : List Str) → okN z = false → SErr B [f, z] .text
/-- .. and what it does -/
def pwDo (B : Bk) (n : Str) (w : Int × Int × Int) : Bk := { B with names := if hasB B n = true then B.names else B.names ++ [n], works := sput B.works n w }
def pnDo (B : Bk) (a b : Str) : Bk := { B with pairs := if (a, b) ∈ B.pairs then B.pairs else B.pairs ++ [(a, b)] }
def fnDo (B : Bk) (a b : Str) : Bk := { B with pairs := B.pairs.filter fun p => !decide (p = (a, b)) }
def drDo (B : Bk) (a : Str) : Bk := { names := B.names.filter fun n => !decide (n = a), works := sdrop B.works a, pairs := B.pairs.filter fun p => !decide (a = p.1 ∨ a = p.2) }
inductive Chg (B : Bk) : List Str → Bk → Prop
  | work {n u l p : Str} : nameZ n = true → okN u = true → okN l = true → okN p = true → valZ l ≤ valZ u → (hasB B n = true ∨ B.names.length < 8) → Chg B ["work", n, u, l, p] (pwDo B n (valZ u, valZ l, valZ p))
  | need {a b : Str} : hasB B a = true → hasB B b = true → MQ.Dag B.names.length (NeedIn B a b) → B.pairs.length < 100 → Chg B ["need", a, b] (pnDo B a b)
  | free {a b : Str} : hasB B a = true → hasB B b = true → Chg B ["free", a, b] (fnDo B a b)
  | drop {a : Str} : hasB B a = true → Chg B ["drop", a] (drDo B a)
/-! numbers, shown -/
def numZ (n : Int) : Str := Str.ofString (toString n)
def shownZ (ns : List Int) : Str := Txt.join " " (ns.map numZ)
def showB (B : Bk) (x : Str) : Str := Txt.join " " ([match sval B.works x with | some w => shownZ [w.1, w.2.1, w.2.2] | none => ""] ++ B.names.filter fun n => decide ((n, x) ∈ B.pairs))
/-! ### rules -/
section
variable {K : PySem.W.Frag} {c : Cq K} {B0 : Hp} {b : Bool} {ρ : Rho} {D : Ends} {ta tb te : TE} {tz : TS}
theorem ev_inZT {ns : List Str} {z : Str} (ha : EvR c ta ρ (.str z)) (hb : EvR c tb ρ (.tuple (ns.map PyData.str))) : Ev c b (tOp (rIn K false) ta tb) ρ (.bool (decide (z ∈ ns))) := fun O σ F H S Q k =>
  ha O σ F H S _ fun v F1 H1 e1 h1 S1 d1 => hb O σ F1 H1 S1 _ fun w F2 H2 e2 h2 S2 d2 => by
    cases d1
    cases d2 with
    | tup p r q =>
      have e := q.strs
      subst e
      refine ⟨_, _, rfl, .inr (.inl r), rfl, flat_strs ns, ?_⟩
      rw [inV_str]
      exact k _ F2 H2 (e1.trans e2) (h1.trans h2) S2 (.bl _)
/-- text.split(sep) -/
theorem el_split {z y : Str} (ha : EvR c ta ρ (.str z)) (hb : EvR c tb ρ (.str y)) (hy : (y.length == 0) = false) (hz : z.length ≤ 90000) : EvL c b (tM1 (fun x xs H Q => ∃ a b, x = .str a ∧ xs = [.str b] ∧ (b.length == 0) = false ∧ a.length + 2 ≤ sizeLine ∧ rNewStrs (Txt.split a b) H Q) ta tb) ρ ((Txt.split z y).map PyData.str) := fun O σ F H S Q k =>
  ha O σ F H S _ fun v F1 H1 e1 h1 S1 d1 => by
    cases d1
    refine ⟨⟨z, rfl⟩, hb O σ F1 H1 S1 _ fun w F2 H2 e2 h2 S2 d2 => ?_⟩
    cases d2
    exact ⟨z, y, rfl, rfl, hy, Evl.sz_of (by omega), lay_list k (e1.trans e2) (h1.trans h2) S2 (DdAll.ofStrs _)⟩
/-- sep.join(texts) -/
theorem ev_joinZ {ys : List Str} {sep : Str} (ha : EvR c ta ρ (.str sep)) (hb : EvR c tb ρ (.list (ys.map PyData.str))) (hl : (ys.map (·.length)).sum + ys.length * sep.length ≤ 16777216) : Ev c b (tM1 (rJoin K) ta tb) ρ (.str (Txt.join sep ys)) := fun O σ F H S Q k =>
  ha O σ F H S _ fun v F1 H1 e1 h1 S1 d1 => by
    cases d1
    refine ⟨⟨sep, rfl⟩, hb O σ F1 H1 S1 _ fun w F2 H2 e2 h2 S2 d2 => ?_⟩
    cases d2 with
    | lst r q =>
      have e := q.strs
      subst e
      exact ⟨sep, _, ys, rfl, rfl, .inl (dd_sq (fun _ _ h => h) (Evl.Ex.refl _) r), hl, k _ F2 H2 (e1.trans e2) (h1.trans h2) S2 (.str _)⟩
theorem sum_le {α : Type} {f : α → Nat} {m : Nat} : ∀ {xs : List α}, (∀ x ∈ xs, f x ≤ m) → (xs.map f).sum ≤ xs.length * m
  | [], _ => by simp
  | x :: xs, h => by
    have h1 := h x List.mem_cons_self
    have h2 := sum_le (xs := xs) fun y hy => h y (List.mem_cons_of_mem _ hy)
    rw [List.map_cons, List.sum_cons, List.length_cons, Nat.succ_mul]
    omega
/-- of bounded texts -/
theorem ev_joinB {ys : List Str} {sep : Str} (m n : Nat) (ha : EvR c ta ρ (.str sep)) (hb : EvR c tb ρ (.list (ys.map PyData.str))) (h1 : ys.length ≤ n) (h2 : ∀ y ∈ ys, y.length ≤ m) (h3 : sep.length ≤ 2) (h4 : n * (m + 2) ≤ 16777216) : Ev c b (tM1 (rJoin K) ta tb) ρ (.str (Txt.join sep ys)) := by
  refine ev_joinZ ha hb ?_
  have := sum_le (f := fun y : Str => y.length) h2
  have e1 : ys.length * m ≤ n * m := Nat.mul_le_mul_right _ h1
  have e2 : ys.length * sep.length ≤ n * 2 := Nat.mul_le_mul h1 h3
  rw [Nat.mul_add] at h4
  omega
theorem pairs_any {B : Bk} (h : BkOk B) {x : Str × Str} (h1 : nameZ x.1 = true) (h2 : nameZ x.2 = true) : ((B.pairs.map prD).any fun z => PyData.eqv z (prD x)) = decide (x ∈ B.pairs) := by
  rw [Bool.eq_iff_iff, List.any_eq_true, decide_eq_true_eq]
  constructor
  · rintro ⟨d, hd, e⟩
    obtain ⟨p, hp, rfl⟩ := List.mem_map.mp hd
    obtain ⟨q1, q2⟩ := h.pr p hp
    have := ((nice_prD (h.nz _ q1) (h.nz _ q2)).eqv (nice_prD h1 h2)).mp e
    rw [← prD_inj.mp this]
    exact hp
  · intro hx
    exact ⟨prD x, List.mem_map.mpr ⟨x, hx, rfl⟩, (nice_prD h1 h2).refl⟩
theorem pairs_nice {B : Bk} (h : BkOk B) : Nice 2 (.list (B.pairs.map prD)) := nice_list fun d hd => by
  obtain ⟨p, hp, rfl⟩ := List.mem_map.mp hd
  obtain ⟨q1, q2⟩ := h.pr p hp
  exact nice_prD (h.nz _ q1) (h.nz _ q2)
/-- a new list of an owned book's method, to be read -/
theorem era_methO {m : Str} {E : XK} {ms : List Bool} {P : List PyData → Prop} {R : List PyData → PyData → Prop} {X : List PyData → Addr → Prop} {RB : Bk → List PyData → PyData → Bk → Prop} {C a : Addr} {A : BkA} {B : Bk} {i : Nat} {t : TA} {ds : List PyData} {d : PyData}
    (nf : NF m) (h : ρ[i]? = some (.bk C a A B)) (ha : EvA c t ρ ds) (hms : ms = ds.map fun _ => false) (hP : P (bkD C B :: ds)) (hr : ∀ r, R (bkD C B :: ds) r → r = d) : EvRa c (tMeth C m (spM2 K C (true :: ms) P R X RB) [] E (tVar i) t) ρ d := fun O σ F H S Q k => by
  obtain ⟨ho, bi⟩ := S.bkIn h
  refine ⟨_, ho, a, A.dx, _, rfl, bi.at_.ob, fldA_none nf.a nf.b nf.c A, ha O σ F H S _ fun vs F1 H1 e1 g1 S1 d1 => ?_⟩
  obtain ⟨_, bi1⟩ := S1.bkIn h
  subst hms
  exact .inl ⟨fun _ => True, _, by rw [List.append_nil]; exact .new (bi1.at_.data S1.ff) (DdM.plain d1), .inl ⟨hP, fun r v H' hR e2 dd => k v _ H' (e1.trans (addF_ex S1.ff)) (g1.trans e2) (S1.add e2) (by
    have q := hr r hR
    subst q
    exact dd.up ⟨fun _ _ => trivial, fun _ _ (z : False) => z.elim⟩ (Evl.Ex.refl _))⟩⟩
theorem era_cat {ds es : List PyData} (ha : EvRa c ta ρ (.list ds)) (hb : EvRa c tb ρ (.list es)) (hl : ds.length + es.length ≤ 100000) : EvRa c (tOp rCatR ta tb) ρ (.list (ds ++ es)) := fun O σ F H S Q k =>
  ha O σ F H S _ fun v F1 H1 e1 g1 S1 d1 => hb O σ F1 H1 S1 _ fun w F2 H2 e2 g2 S2 d2 => by
    cases d1 with
    | lst r q =>
    cases d2 with
    | lst r2 q2 =>
    have l1 := q.length
    have l2 := q2.length
    have r : Rd H2 _ (.lst _) := rd_ex g2 (r.elim (fun r => r.2) fun z => (show False from z).elim)
    have r2 : Rd H2 _ (.lst _) := r2.elim (fun r => r.2) fun z => (show False from z).elim
    exact ⟨_, _, _, _, rfl, rfl, r, r2, Evl.sz_of (by omega), fun p hp => k _ F2 _ (e1.trans e2) (g1.trans (g2.trans (Evl.Ex.new hp))) (S2.lay hp) (.lst (.inl ⟨trivial, .inl upd_same⟩) (((q.ex g2).append q2).ex (Evl.Ex.new hp)))⟩
/-- an error on the way through a comprehension -/
theorem z_lc {α : Type} {xs : List α} {enc : α → PyData} {b0 : Bool} {tl : TE} {g : TG} {vs js : List Nat} {i : Nat} (j : Nat) (h : α → PyData) (hj : j < xs.length) (hl : EvE c b0 tl ρ (xs.map enc)) (hz : xs.length ≤ 40000) (hjs : ∀ j ∈ js, j ∈ vs)
    (ht : ∀ (k : Nat) (x : α), xs[k]? = some x → k ≤ j → ∃ ρ', TgOk c b0 g js (wipeR ρ vs) (enc x) ρ' ∧ (k < j → Ev c b te ρ' (h x)) ∧ (k = j → EvZ c te ρ')) :
    Go c B0 (tAsg (tLc (iList K tl) g tYes te vs) (gName i)) D ρ := fun O σ F H e S => by
  refine hl O σ F H S _ fun a xv F1 H1 e1 h1 S1 r1 d1 => ⟨a, rfl, ⟨_, r1⟩, fun Dl hD => ?_⟩
  have nD : ¬ ownA ρ σ Dl := fun z => (S1.ownA_prot z).2 hD
  have lenx : xv.length = xs.length := by rw [d1.length, List.length_map]
  refine lc_list (K := K) (a := a) (xs := xv) (fun i H' => i ≤ j ∧ ∃ F' ys, LcInv c b O ρ σ F1 H1 Dl ((xs.take i).map h) F' H' ys) ?_ ?_ ?_ ?_
  · exact ⟨Nat.zero_le _, F1, [], Evl.Ex.refl _, Evl.Ex.new hD, upd_same, S1.fresh hD, S1.lay hD, by simp; exact .nil⟩
  · rintro i H' hi ⟨_, F', ys, I⟩
    exact sq_ex I.eh r1
  · rintro i x H' hx ⟨hij, F', ys, I⟩
    obtain ⟨d, hd, dd⟩ := d1.getV hx
    rw [List.getElem?_map] at hd
    cases hu : xs[i]? with
    | none => rw [hu] at hd; cases hd
    | some u =>
      rw [hu] at hd
      cases hd
      obtain ⟨ρ', tg, t1, t2⟩ := ht i u hu hij
      by_cases q : i < j
      · refine lc_turn (p := true) (h := h u) I hD nD (dd.ex I.ef) ⟨tg, eb_yes, fun _ => t1 q⟩ hjs (by rw [List.length_map, List.length_take]; omega) fun F2 H2 ys2 I2 => ⟨q, F2, ys2, ?_⟩
        rw [List.take_add_one, hu, Option.toList_some, List.map_append]
        exact I2
      · have S0 : Sim c (fun a => O a ∨ a = Dl ∨ ownA ρ σ a) ρ σ F' H' := I.sim.sub fun a h => by
          rcases h with h | h | h
          · exact I.sim.prot a h
          · subst h; exact ⟨I.fD, by rw [I.at_]; simp⟩
          · exact I.sim.ownA_prot h
        exact tg _ _ F' H' x (S0.wipe vs) (dd.ex I.ef) _ fun σ2 l2 a2 S2 => ⟨wipe_eq l2 a2 hjs, eb_yes _ σ2 F' H' S2 _ fun F3 H3 e3 g3 S3 => iteT (t2 (by omega) _ σ2 F3 H3 S3 _)⟩
  · rintro H' ⟨hij, _⟩
    rw [lenx] at hij
    omega
end
theorem nf_needs : NF "needs" := ⟨by decide +kernel, by decide +kernel, by decide +kernel⟩
theorem nf_listed : NF "listed" := ⟨by decide +kernel, by decide +kernel, by decide +kernel⟩
theorem nf_standing : NF "standing" := ⟨by decide +kernel, by decide +kernel, by decide +kernel⟩
theorem nf_put_work : NF "put_work" := ⟨by decide +kernel, by decide +kernel, by decide +kernel⟩
theorem nf_put_need : NF "put_need" := ⟨by decide +kernel, by decide +kernel, by decide +kernel⟩
theorem nf_free_need : NF "free_need" := ⟨by decide +kernel, by decide +kernel, by decide +kernel⟩
theorem nf_drop : NF "drop" := ⟨by decide +kernel, by decide +kernel, by decide +kernel⟩
theorem nf_change : NF "change" := ⟨by decide +kernel, by decide +kernel, by decide +kernel⟩
theorem nf_show : NF "show" := ⟨by decide +kernel, by decide +kernel, by decide +kernel⟩
theorem nf_say : NF "say" := ⟨by decide +kernel, by decide +kernel, by decide +kernel⟩
theorem nf_told_plan : NF "told_plan" := ⟨by decide +kernel, by decide +kernel, by decide +kernel⟩
theorem nf_told_why : NF "told_why" := ⟨by decide +kernel, by decide +kernel, by decide +kernel⟩
theorem nf_told_spare : NF "told_spare" := ⟨by decide +kernel, by decide +kernel, by decide +kernel⟩
theorem nf_told_whole : NF "told_whole" := ⟨by decide +kernel, by decide +kernel, by decide +kernel⟩
/-! ### promises of the methods -/
def P_Book_listed (C : Addr) (ds : List PyData) : Prop := ∃ B, ds = [bkD C B] ∧ BkOk B
def R_Book_listed (ds : List PyData) (r : PyData) : Prop := ∀ C B, ds = [bkD C B] → r = wL (B.works.map (·.2))
def X_never (C : Addr) (ds : List PyData) (Ce : Addr) : Prop := False
def RB_none (B : Bk) (ds : List PyData) (r : PyData) (B' : Bk) : Prop := False
def P_Book_needs (C : Addr) (ds : List PyData) : Prop := ∃ B, ds = [bkD C B] ∧ BkOk B
def R_Book_needs (ds : List PyData) (r : PyData) : Prop := ∀ C B, ds = [bkD C B] → r = pL (pIx B)
def P_Book_standing (C : Addr) (ds : List PyData) : Prop := ∃ B x, ds = [bkD C B, .str x] ∧ hasB B x = true
def R_Book_standing (ds : List PyData) (r : PyData) : Prop := ∀ C B x, ds = [bkD C B, .str x] → r = .str x
def X_Book_standing (C O R W N T : Addr) (ds : List PyData) (Ce : Addr) : Prop := ∃ B x, ds = [bkD C B, .str x] ∧ hasB B x = false ∧ Ce = N
def Small (ws : List Str) : Prop := ws.length ≤ 1000 ∧ ∀ w ∈ ws, w.length ≤ 100
def X_Book_put_work (C O R W N T : Addr) (ds : List PyData) (Ce : Addr) : Prop := ∃ B f n u l p e, ds = [bkD C B, .list ([f, n, u, l, p].map PyData.str)] ∧ BkOk B ∧ Small [f, n, u, l, p] ∧ PwErr B n u l p e ∧ Ce = erA O R W N T e
def RB_Book_put_work (B : Bk) (ds : List PyData) (r : PyData) (B' : Bk) : Prop := ∃ n u l p, ds = [.list ((["work", n, u, l, p] : List Str).map PyData.str)] ∧ BkOk B ∧ Small ["work", n, u, l, p] ∧ r = .none ∧ Chg B ["work", n, u, l, p] B'
def X_Book_put_need (C O R W N T : Addr) (ds : List PyData) (Ce : Addr) : Prop := ∃ B a b e, ds = [bkD C B, .str a, .str b] ∧ BkOk B ∧ PnErr B a b e ∧ Ce = erA O R W N T e
def RB_Book_put_need (B : Bk) (ds : List PyData) (r : PyData) (B' : Bk) : Prop := ∃ a b, ds = [.str a, .str b] ∧ BkOk B ∧ r = .none ∧ Chg B ["need", a, b] B'
def X_Book_free_need (C O R W N T : Addr) (ds : List PyData) (Ce : Addr) : Prop := ∃ B a b, ds = [bkD C B, .str a, .str b] ∧ BkOk B ∧ (hasB B a && hasB B b) = false ∧ Ce = N
def RB_Book_free_need (B : Bk) (ds : List PyData) (r : PyData) (B' : Bk) : Prop := ∃ a b, ds = [.str a, .str b] ∧ BkOk B ∧ r = .none ∧ Chg B ["free", a, b] B'
def X_Book_drop (C O R W N T : Addr) (ds : List PyData) (Ce : Addr) : Prop := ∃ B a, ds = [bkD C B, .str a] ∧ BkOk B ∧ hasB B a = false ∧ Ce = N
def RB_Book_drop (B : Bk) (ds : List PyData) (r : PyData) (B' : Bk) : Prop := ∃ a, ds = [.str a] ∧ BkOk B ∧ r = .none ∧ Chg B ["drop", a] B'
def X_Book_change (C O R W N T : Addr) (ds : List PyData) (Ce : Addr) : Prop := ∃ B ws e, ds = [bkD C B, .list (ws.map PyData.str)] ∧ BkOk B ∧ Small ws ∧ CErr B ws e ∧ Ce = erA O R W N T e
def RB_Book_change (B : Bk) (ds : List PyData) (r : PyData) (B' : Bk) : Prop := ∃ ws, ds = [.list (ws.map PyData.str)] ∧ BkOk B ∧ Small ws ∧ r = .str "ok" ∧ Chg B ws B'
def P_Book_show (C : Addr) (ds : List PyData) : Prop := ∃ B x, ds = [bkD C B, .str x] ∧ BkOk B ∧ hasB B x = true ∧ ∀ q ∈ B.works, (0 ≤ q.2.1 ∧ Sz 400 q.2.1) ∧ (0 ≤ q.2.2.1 ∧ Sz 400 q.2.2.1) ∧ (0 ≤ q.2.2.2 ∧ Sz 400 q.2.2.2)
def R_Book_show (ds : List PyData) (r : PyData) : Prop := ∀ C B x, ds = [bkD C B, .str x] → r = .str (showB B x)
def X_Book_show (C O R W N T : Addr) (ds : List PyData) (Ce : Addr) : Prop := X_Book_standing C O R W N T ds Ce
section
variable {K : PySem.W.Frag} {c : Cq K} {b : Bool} {ρ : Rho} {tx te : TE} {C a O R W N T : Addr} {A : BkA} {B : Bk} {x : Str} {i : Nat} {E : XK}
theorem ev_standing (hself : Ev c true te ρ (bkD C B)) (hx : EvR c tx ρ (.str x)) (h : hasB B x = true) : Ev c true (tMeth C "standing" (spM2 K C [true, false] (P_Book_standing C) R_Book_standing (X_Book_standing C O R W N T) RB_none) [] E te (tCons tx tNil)) ρ (.str x) :=
  EvN.ev1 ((en_meth nf_standing hself (em_any hx em_nil) ⟨B, x, rfl, h⟩).mono fun r hr => hr C B x rfl)
theorem ez_standing (hself : Ev c true te ρ (bkD C B)) (hx : EvR c tx ρ (.str x)) (h : hasB B x = false) (hE : ∀ H', Ex c.H0 H' → E (.ref N) none H') : EvZ c (tMeth C "standing" (spM2 K C [true, false] (P_Book_standing C) R_Book_standing (X_Book_standing C O R W N T) RB_none) [] E te (tCons tx tNil)) ρ :=
  ez_meth nf_standing hself (em_any hx em_nil) ⟨B, x, rfl, h, rfl⟩ hE
theorem eo_standing (hb : ρ[i]? = some (.bk C a A B)) (hx : EvR c tx ρ (.str x)) (h : hasB B x = true) : Ev c b (tMeth C "standing" (spM2 K C [true, false] (P_Book_standing C) R_Book_standing (X_Book_standing C O R W N T) RB_none) [] E (tVar i) (tCons tx tNil)) ρ (.str x) :=
  EvN.ev1 ((en_methO nf_standing hb (ea_cons hx ea_nil) rfl ⟨B, x, rfl, h⟩ fun r hr => by rw [hr C B x rfl]; rfl).mono fun r hr => hr C B x rfl)
theorem ev_needs (hself : Ev c true te ρ (bkD C B)) (ok : BkOk B) : Ev c true (tMeth C "needs" (spM2 K C [true] (P_Book_needs C) R_Book_needs (X_never C) RB_none) [] E te tNil) ρ (pL (pIx B)) :=
  EvN.ev1 ((en_meth nf_needs hself em_nil ⟨B, rfl, ok⟩).mono fun r hr => hr C B rfl)
theorem eo_needs (hb : ρ[i]? = some (.bk C a A B)) (ok : BkOk B) : EvRa c (tMeth C "needs" (spM2 K C [true] (P_Book_needs C) R_Book_needs (X_never C) RB_none) [] E (tVar i) tNil) ρ (pL (pIx B)) :=
  era_methO nf_needs hb ea_nil rfl ⟨B, rfl, ok⟩ fun r hr => hr C B rfl
theorem ev_listed (hself : Ev c true te ρ (bkD C B)) (ok : BkOk B) : Ev c true (tMeth C "listed" (spM2 K C [true] (P_Book_listed C) R_Book_listed (X_never C) RB_none) [] E te tNil) ρ (wL (B.works.map (·.2))) :=
  EvN.ev1 ((en_meth nf_listed hself em_nil ⟨B, rfl, ok⟩).mono fun r hr => hr C B rfl)
end
theorem er_needPlus {K : PySem.W.Frag} {c : Cq K} {ρ : Rho} {C a : Addr} {A : BkA} {B : Bk} {x y : Str} {i j : Nat} {E : XK} (hb : ρ[i]? = some (.bk C a A B)) (hj : ρ[j]? = some (.val true (pD (pI B.names (x, y))))) (ok : BkOk B) :
    EvR c (tOp rCatR (tMeth C "needs" (spM2 K C [true] (P_Book_needs C) R_Book_needs (X_never C) RB_none) [] E (tVar i) tNil) (tLst (tCons (tVar j) tNil))) ρ (pL (NeedIn B x y)) := by
  refine EvRa.r ?_
  unfold NeedIn
  show EvRa _ _ _ (PyData.list ((pIx B ++ [_]).map pD))
  rw [List.map_append]
  refine era_cat (eo_needs hb ok) (Ev.ra (EvL.ev (el_lst (ef_cons (ev_var hj) ef_nil) (Nat.le_of_ble_eq_true rfl)))) ?_
  unfold pIx
  rw [List.length_map, List.length_map]
  have := ok.pl
  show _ + 1 ≤ _
  omega
theorem ez_pop {K : PySem.W.Frag} {c : Cq K} {ρ : Rho} {td ty : TE} {kd : List (Str × PyData)} (h : EvR c td ρ (sdicD kd)) (hz : EvZ c ty ρ) : EvZ c (L2.tDPop1 td ty) ρ := fun O σ F H S Q => h O σ F H S _ fun v F1 H1 e1 g1 S1 d1 => by
  obtain ⟨p, kvs, rfl, _, r1, dd⟩ := d1.toSdic
  rcases r1 with r1 | ⟨o, r1⟩
  · exact ⟨p, rfl, .inl ⟨kvs, .inl r1⟩, hz O σ F1 H1 S1 _⟩
  · exact ⟨p, rfl, .inl ⟨kvs, .inr ⟨o, r1⟩⟩, hz O σ F1 H1 S1 _⟩
theorem ez_dget {K : PySem.W.Frag} {c : Cq K} {ρ : Rho} {td ty : TE} {d : PyData} (h : EvR c td ρ d) (hz : EvZ c ty ρ) : EvZ c (tDGet td ty) ρ := fun O σ F H S Q => h O σ F H S _ fun v F1 H1 _ _ S1 _ => hz O σ F1 H1 S1 _
theorem join_len {ys : List Str} {sep : Str} {m : Nat} (h : ∀ y ∈ ys, y.length ≤ m) : (Txt.join sep ys).length ≤ ys.length * (m + sep.length) := by
  rw [TL.join_eq]
  have h1 := StrLaws.join_length_le sep ys
  have h2 := sum_le (f := fun y : Str => y.length) h
  rw [Nat.mul_add]
  omega
theorem split_ne (x : Str) : Txt.split x " " ≠ [] := fun h => by
  have e := StrLaws.join_split x " "
  rw [h] at e
  have e2 : x = (Str.join " " [] : Str) := e.symm
  rw [e2] at h
  exact absurd h (by decide +kernel)
theorem CErr.said {B : Bk} {ws : List Str} {e : Er} (h : CErr B ws e) : ∃ f r, ws = f :: r ∧ saidB ws = true ∧ f ∈ (["work", "need", "free", "drop"] : List Str) := by
  cases h with
  | work => exact ⟨_, _, rfl, by rw [saidB_cons, if_pos rfl]; rfl, by simp⟩
  | need => exact ⟨_, _, rfl, by rw [saidB_cons, if_neg (by decide +kernel), if_pos (.inl rfl)]; rfl, by simp⟩
  | free => exact ⟨_, _, rfl, by rw [saidB_cons, if_neg (by decide +kernel), if_pos (.inr rfl)]; rfl, by simp⟩
  | drop => exact ⟨_, _, rfl, by rw [saidB_cons, if_neg (by decide +kernel), if_neg (by decide +kernel), if_pos (by decide +kernel)]; rfl, by simp⟩
theorem Chg.said {B B' : Bk} {ws : List Str} (h : Chg B ws B') : ∃ f r, ws = f :: r ∧ saidB ws = true ∧ f ∈ (["work", "need", "free", "drop"] : List Str) := by
  cases h with
  | work => exact ⟨_, _, rfl, by rw [saidB_cons, if_pos rfl]; rfl, by simp⟩
  | need => exact ⟨_, _, rfl, by rw [saidB_cons, if_neg (by decide +kernel), if_pos (.inl rfl)]; rfl, by simp⟩
  | free => exact ⟨_, _, rfl, by rw [saidB_cons, if_neg (by decide +kernel), if_pos (.inr rfl)]; rfl, by simp⟩
  | drop => exact ⟨_, _, rfl, by rw [saidB_cons, if_neg (by decide +kernel), if_neg (by decide +kernel), if_pos (by decide +kernel)]; rfl, by simp⟩
theorem said_two {f z : Str} (h : f ∈ (["drop", "show", "price", "plan", "why", "spare", "budget", "bonus"] : List Str)) : saidB [f, z] = true := by
  have n1 : f ≠ "work" := fun e => by rw [e] at h; exact absurd h (by decide +kernel)
  have n2 : ¬ (f = "need" ∨ f = "free") := fun e => by rcases e with e | e <;> (rw [e] at h; exact absurd h (by decide +kernel))
  rw [saidB_cons, if_neg n1, if_neg n2, if_pos h]
  rfl
theorem said_one {f : Str} (h : f ∈ (["names", "ends", "curve"] : List Str)) : saidB [f] = true := by
  have n1 : f ≠ "work" := fun e => by rw [e] at h; exact absurd h (by decide +kernel)
  have n2 : ¬ (f = "need" ∨ f = "free") := fun e => by rcases e with e | e <;> (rw [e] at h; exact absurd h (by decide +kernel))
  have n3 : f ∉ (["drop", "show", "price", "plan", "why", "spare", "budget", "bonus"] : List Str) := fun q => by
    simp only [List.mem_cons, List.not_mem_nil, or_false] at h
    rcases h with rfl | rfl | rfl <;> exact absurd q (by decide +kernel)
  rw [saidB_cons, if_neg n1, if_neg n2, if_neg n3, decide_eq_true h]
  rfl
/-! a row's change, told back -/
theorem Chg.need_inv {B B' : Bk} {a b : Str} (h : Chg B ["need", a, b] B') : hasB B a = true ∧ hasB B b = true ∧ MQ.Dag B.names.length (NeedIn B a b) ∧ B.pairs.length < 100 ∧ B' = pnDo B a b := by
  generalize e : (["need", a, b] : List Str) = ws at h
  cases h with
  | work => cases e
  | need h1 h2 h3 h4 =>
    injection e with _ e
    injection e with e1 e
    injection e with e2 _
    subst e1 e2
    exact ⟨h1, h2, h3, h4, rfl⟩
  | free => exact absurd (List.cons.inj e).1 (by decide +kernel)
  | drop => cases e
theorem Chg.free_inv {B B' : Bk} {a b : Str} (h : Chg B ["free", a, b] B') : hasB B a = true ∧ hasB B b = true ∧ B' = fnDo B a b := by
  generalize e : (["free", a, b] : List Str) = ws at h
  cases h with
  | work => cases e
  | free h1 h2 =>
    injection e with _ e
    injection e with e1 e
    injection e with e2 _
    subst e1 e2
    exact ⟨h1, h2, rfl⟩
  | need => exact absurd (List.cons.inj e).1 (by decide +kernel)
  | drop => cases e
theorem Chg.drop_inv {B B' : Bk} {a : Str} (h : Chg B ["drop", a] B') : hasB B a = true ∧ B' = drDo B a := by
  generalize e : (["drop", a] : List Str) = ws at h
  cases h with
  | work => cases e
  | free => cases e
  | need => cases e
  | drop h1 =>
    injection e with _ e
    injection e with e1 _
    subst e1
    exact ⟨h1, rfl⟩
def P_never (C : Addr) (ds : List PyData) : Prop := False
def R_never (ds : List PyData) (r : PyData) : Prop := False
end DL

end
section
set_option maxRecDepth 100000
set_option maxHeartbeats 1000000
/-! more about books in the caller's hand: a refused row caught; books handed to defs; lists put together of which something holds; numbers as texts -/
namespace DL
open PySem PySem.Spec PyProof.Rows L2
section
variable {K : PySem.W.Frag} {c : Cq K} {B0 : Hp} {D D' : Ends} {ρ : Rho} {C a Ce : Addr} {A : BkA} {B : Bk} {i j : Nat} {b : Bool} {te ta tb : TE} {t : TA} {r d : PyData} {ds : List PyData} {tz : TS} {m : Str} {E : XK} {ms : List Bool} {P : List PyData → Prop} {R : List PyData → PyData → Prop} {X : List PyData → Addr → Prop} {RB : Bk → List PyData → PyData → Bk → Prop} {cc : Value}
/-- a method's error is caught -/
theorem go_dropMK (nf : NF m) (hself : Ev c true ta ρ (bkD C B)) (ha : EvAM c ms t ρ ds) (hX : X (bkD C B :: ds) Ce) (he : PySem.W.exmOne K (.ref Ce) cc = some true) (hi : i < ρ.length) (k : Nx c B0 D' ((ρ.set i .no).set j (.exc (.ref Ce)))) (ij : i ≠ j := by decide) :
    Go c B0 (tDrop (tMethT C m (spM2 K C (true :: ms) P R X RB) (WE (wKeep K cc i (fun _ => tAsg (tVar i) (gName j)) D')) ta t)) D ρ := fun O σ F H e S => hself O σ F H S _ fun v F0 H0 e0 g0 S0 d0 => by
  obtain ⟨a, dx, fs, rfl, nwa, h1, h2, h3⟩ := d0.toIns
  refine ⟨a, dx, fs, rfl, S0.ff _ _ h1, no_lookup h2 (bkF_none nf.a nf.b nf.c B), ha O σ F0 H0 S0 _ fun vs F1 H1 e1 g1 S1 d1 => ?_⟩
  have dm := DdMM.m S1.ff (.new (d0.ex e1) d1)
  exact .inl ⟨_, _, dm, .inr ⟨Ce, hX, caught_nx S1 (e.trans (e0.trans e1)) he hi k ij⟩⟩
/-- a def told what comes of it, some arguments marked -/
def spSF (K : PySem.W.Frag) (ms : List Bool) (R : List PyData → PyData → Prop) : Sp := fun vs H Q _ => ∃ Z ds r, DdM K Z H ms vs ds ∧ R ds r ∧ ∀ v H', Ex H H' → Dd (only fun a => H a = none ∨ Z a) H' v r → Q v H'
/-- an owned book handed to a def that reads it -/
theorem era_callSFO (h : ρ[i]? = some (.bk C a A B)) (ha : EvA c t ρ ds) (hms : ms = ds.map fun _ => false) (hR : R (bkD C B :: ds) d) : EvRa c (tCall (spSF K (true :: ms) R) [] E (tCons (tVar i) t)) ρ d := fun O σ F H S Q k => by
  obtain ⟨ho, bi⟩ := S.bkIn h
  refine ⟨_, ho, ha O σ F H S _ fun vs F1 H1 e1 g1 S1 d1 => ?_⟩
  obtain ⟨_, bi1⟩ := S1.bkIn h
  subst hms
  refine ⟨fun _ => True, _, d, by rw [List.append_nil]; exact .new (bi1.at_.data S1.ff) (DdM.plain d1), hR, fun v H' e2 dd => ?_⟩
  exact k v _ H' (e1.trans (addF_ex S1.ff)) (g1.trans e2) (S1.add e2) (dd.up ⟨fun _ _ => trivial, fun _ _ (z : False) => z.elim⟩ (Evl.Ex.refl _))
/-- 'ok' is told -/
theorem ec_ok {B' : Bk} (h : EvC c te ρ i C a A B' (.str "ok")) : EvBC c (tTest (tOp rNe te (tC (.str "ok")))) ρ i C a A B' false := fun O σ F H S Q k => eb_testC (ec_neZ (y := "ok") h) O σ F H S Q fun A1 F1 H1 g e S1 => by
  have q := k A1 F1 H1 g e S1
  have z : (!decide ((Str.ofString "ok") = (Str.ofString "ok"))) = false := by simp
  rw [z]
  exact q
theorem ec_okE {B' : Bk} (h : EvC c te ρ i C a A B' (.str "ok")) : EvC c (tOp rEq te (tC (.str "ok"))) ρ i C a A B' (.bool true) := fun O σ F H S Q k => ec_eqZ (y := "ok") h O σ F H S Q fun v A1 F1 H1 g e S1 sv => by
  have z : decide ((Str.ofString "ok") = (Str.ofString "ok")) = true := by simp
  rw [z] at sv
  exact k v A1 F1 H1 g e S1 sv
theorem ev_callNA {PP PA : List PyData → Prop} (h : EvAN c t ρ PA) (hP : ∀ ds, PA ds → PP ds) : EvN c b (tCall (spN K PP R) [] E t) ρ (fun r => ∃ ds, PA ds ∧ R ds r) := fun O σ F H S Q k => h O σ F H S _ fun ds vs F1 H1 pa e1 h1 S1 d1 => by
  refine ⟨ds, by rw [List.append_nil]; exact d1, hP ds pa, fun r v H' hR e2 dd => ?_⟩
  exact k r v _ H' ⟨ds, pa, hR⟩ (e1.trans (addF_ex S1.ff)) (h1.trans e2) (S1.add e2) (dd.add S1 b)
/-- two lists of which something holds -/
theorem el_catN {Px Py : List PyData → Prop} (ha : EvN c true ta ρ fun d => ∃ xs, d = .list xs ∧ Px xs) (hb : EvN c true tb ρ fun d => ∃ ys, d = .list ys ∧ Py ys) (hl : ∀ xs ys, Px xs → Py ys → xs.length + ys.length ≤ 100000) : EvLN c true (tOp rCatR ta tb) ρ fun zs => ∃ xs ys, zs = xs ++ ys ∧ Px xs ∧ Py ys := fun O σ F H S Q k =>
  ha O σ F H S _ fun d v F1 H1 p1 e1 g1 S1 d1 => hb O σ F1 H1 S1 _ fun d' w F2 H2 p2 e2 g2 S2 d2 => by
    obtain ⟨xs, rfl, px⟩ := p1
    obtain ⟨ys, rfl, py⟩ := p2
    cases d1 with
    | lst r q =>
    cases d2 with
    | lst r2 q2 =>
    have l1 := q.length
    have l2 := q2.length
    have hh := hl xs ys px py
    have r : Rd H2 _ (.lst _) := rd_ex (e2.trans S2.ff) (r.elim (fun r => r.2) fun z => (show False from z).elim)
    have r2 : Rd H2 _ (.lst _) := rd_ex S2.ff (r2.elim (fun r => r.2) fun z => (show False from z).elim)
    exact ⟨_, _, _, _, rfl, rfl, r, r2, Evl.sz_of (by omega), fun p hp => k _ p _ F2 _ ⟨xs, ys, rfl, px, py⟩ (e1.trans e2) (g1.trans (g2.trans (Evl.Ex.new hp))) (S2.lay hp) (Evl.fresh_back (g1.trans g2) hp) (S2.fresh hp) upd_same (S2.notOwn hp) ((q.ex e2).append q2)⟩
end
section
variable {P : Program} {w : World} {K : PySem.W.Frag} {mg : Str → Option Value} {base : Heap} {x : Str} {st : Stmt} {N ps : List Str} {k : Nat} {ms : List Bool}
theorem cl_SF {R : List PyData → PyData → Prop} (D : Dfn K mg x st ps) (S : FnScope N ps (defScope st)) (hlen : ∀ ds r, R ds r → ds.length = ps.length)
    (hbody : ∀ (f : Addr) (cdv : Value) (A : Around) (outer : List Env) (s : Shared) (H : Hp) (E : XK), Room k (A.deeper (envOfC x (defScope st) s.heap.objs.size f cdv)) →
      ∃ t, PSs (cxOf CX0 P w K mg base N x (defScope st) f cdv A outer s H E).nox (defBody st) t ∧ ∀ (Q : VK) (c : Cq K) ds r, R ds r → Rt c Q r → Go c c.H0 t { nx := fun _ H' => Q .non H', rt := Q } (startM ms ds ++ List.replicate (N.length - ds.length) Sl.no)) :
    Cl P w K mg base CX0 (k + 1) x (spSF K ms R) := by
  obtain ⟨f, fd, F, hm, b⟩ := D.ex
  refine ⟨f, fd, ps, F.ok S (fun vs H Q E h => ?_) (fun cdv A outer s H vs Q E hr h => ?_), hm, F.kp, b⟩
  · obtain ⟨Z, ds, r, hd, hR, _⟩ := h
    rw [hd.lens.1]; exact hlen _ _ hR
  · obtain ⟨t, h1, h2⟩ := hbody f cdv A outer s H E hr
    obtain ⟨Z, ds, r, hd, hR, kk⟩ := h
    have hpl : ps.length ≤ N.length := by have := congrArg List.length S.pre; rw [List.length_take] at this; omega
    refine ⟨t, h1, enterS (E := E) (PP := fun ds' => ds' = ds) (R := fun _ r' => r' = r) (ms := ms) ⟨Z, ds, hd, rfl, fun r' v H' e e2 dd => by subst e; exact kk v H' e2 dd⟩ (fun ds' e => by rw [e, hlen _ _ hR]; exact hpl) fun c ds' e hQ => ?_⟩
    subst e
    exact h2 Q c ds' r hR (hQ r rfl)
end
/-! ### numbers as texts -/
theorem numL_head : ∀ n : Nat, 0 < n → (TL.numL n).head? ≠ some 48 := fun n => by
  induction n using Nat.strongRecOn with
  | _ n ih =>
    intro h0
    by_cases h : n < 10
    · rw [TL.numL_lt h]
      intro e
      simp at e
      omega
    · rw [TL.numL_step (by omega)]
      have := ih (n / 10) (by omega) (by omega)
      have ne := TL.numL_ne (n / 10)
      cases e : TL.numL (n / 10) with
      | nil => exact absurd e ne
      | cons x r =>
        rw [e] at this
        exact this
theorem figs_tl : figs.cps.toList = [48, 49, 50, 51, 52, 53, 54, 55, 56, 57] := by decide +kernel
theorem numZ_tl (n : Nat) : (numZ (n : Int)).cps.toList = TL.numL n := by unfold numZ; exact TL.tl_num n
/-- a number written is read again -/
theorem numZ_ok {x : Int} (h0 : 0 ≤ x) (h : x < 10 ^ 30) : okN (numZ x) = true ∧ valZ (numZ x) = x := by
  obtain ⟨n, rfl⟩ := nat_of h0
  have hn : n < 10 ^ 30 := by omega
  have hl : (numZ (n : Int)).length = (TL.numL n).length := by rw [← toL_len, numZ_tl]
  have hne := List.length_pos_iff.mpr (TL.numL_ne n)
  have hle := TL.numL_len (k := 30) (by decide) hn
  constructor
  · unfold okN allZ
    rw [numZ_tl, hl, Bool.and_eq_true, Bool.and_eq_true]
    refine ⟨⟨by rw [decide_eq_false (by omega), decide_eq_false (by omega)]; rfl, List.all_eq_true.mpr fun m hm => decide_eq_true ?_⟩, ?_⟩
    · have := TL.numL_digits n m hm
      rw [figs_tl]
      simp only [List.mem_cons, List.not_mem_nil, or_false]
      omega
    · by_cases z : n = 0
      · subst z
        decide +kernel
      · rw [decide_eq_false (numL_head n (by omega))]
        rfl
  · unfold valZ
    rw [numZ_tl, TL.numL_val]
theorem numZ_cps {x : Int} (h0 : 0 ≤ x) : ∀ m ∈ (numZ x).cps.toList, 48 ≤ m ∧ m ≤ 57 := by
  obtain ⟨n, rfl⟩ := nat_of h0
  rw [numZ_tl]
  exact fun m hm => TL.numL_digits n m hm
/-! ### texts that may be compared -/
def OkZ (z : Str) : Prop := ∀ m ∈ z.cps.toList, m < 128
theorem OkZ.str {z : Str} (h : OkZ z) : PyData.strOk z = true := by
  unfold PyData.strOk
  rw [Array.all_eq_true']
  intro n hn
  have := h n (by rw [Array.mem_toList_iff]; exact hn)
  simp
  omega
theorem OkZ.add {x y : Str} (hx : OkZ x) (hy : OkZ y) : OkZ (x ++ y) := fun m hm => by
  have hm : m ∈ TL.tl (x ++ y) := hm
  rw [TL.tl_append] at hm
  rcases List.mem_append.mp hm with q | q
  · exact hx m q
  · exact hy m q
theorem joinL_mem {s : List Nat} {m : Nat} : ∀ {ps : List (List Nat)}, m ∈ TL.joinL s ps → m ∈ s ∨ ∃ p ∈ ps, m ∈ p
  | [], h => by cases h
  | [p], h => .inr ⟨p, List.mem_singleton.mpr rfl, h⟩
  | p :: q :: r, h => by
    have h : m ∈ p ++ (s ++ TL.joinL s (q :: r)) := h
    rcases List.mem_append.mp h with h | h
    · exact .inr ⟨p, List.mem_cons_self, h⟩
    · rcases List.mem_append.mp h with h | h
      · exact .inl h
      · rcases joinL_mem h with h | ⟨x, hx, h⟩
        · exact .inl h
        · exact .inr ⟨x, List.mem_cons_of_mem _ hx, h⟩
theorem OkZ.join {sep : Str} {ys : List Str} (hs : OkZ sep) (h : ∀ y ∈ ys, OkZ y) : OkZ (Txt.join sep ys) := fun m hm => by
  have hm : m ∈ TL.tl (Txt.join sep ys) := hm
  rw [TL.join_eq, TL.tl_join] at hm
  rcases joinL_mem hm with q | ⟨p, hp, q⟩
  · exact hs m q
  · obtain ⟨y, hy, rfl⟩ := List.mem_map.mp hp
    exact h y hy m q
theorem OkZ.name {z : Str} (h : nameZ z = true) : OkZ z := fun m hm => by have := (name_of h).2.2 m hm; omega
theorem OkZ.num {x : Int} (h : 0 ≤ x) : OkZ (numZ x) := fun m hm => by have := numZ_cps h m hm; omega
theorem OkZ.blank : OkZ " " := by
  have e : (Str.ofString " ").cps.toList = [32] := by decide +kernel
  intro m hm
  have hm : m ∈ (Str.ofString " ").cps.toList := hm
  rw [e] at hm
  simp at hm
  omega
theorem OkZ.shown {ns : List Int} (h : ∀ x ∈ ns, 0 ≤ x) : OkZ (shownZ ns) := OkZ.join .blank fun y hy => by
  obtain ⟨x, hx, rfl⟩ := List.mem_map.mp hy
  exact OkZ.num (h x hx)
theorem OkZ.showB {B : Bk} (ok : BkOk B) (hw : ∀ q ∈ B.works, 0 ≤ q.2.1 ∧ 0 ≤ q.2.2.1 ∧ 0 ≤ q.2.2.2) {x : Str} (hx : hasB B x = true) : OkZ (showB B x) := by
  obtain ⟨w, e⟩ := has_val hx
  unfold DL.showB
  rw [e]
  refine OkZ.join .blank fun y hy => ?_
  rcases List.mem_append.mp hy with hy | hy
  · rw [List.mem_singleton] at hy
    rw [hy]
    have hm : ∃ q ∈ B.works, q.2 = w := by
      unfold sval at e
      obtain ⟨q, hq, e⟩ := Option.map_eq_some_iff.mp e
      exact ⟨q, List.mem_of_find?_eq_some hq, e⟩
    obtain ⟨q, hq, rfl⟩ := hm
    obtain ⟨h1, h2, h3⟩ := hw q hq
    refine OkZ.shown fun z hz => ?_
    simp only [List.mem_cons, List.not_mem_nil, or_false] at hz
    rcases hz with rfl | rfl | rfl <;> assumption
  · exact OkZ.name (ok.nz y (List.mem_filter.mp hy).1)
theorem nice_strs {ys : List Str} (h : ∀ y ∈ ys, OkZ y) : Nice 1 (.list (ys.map PyData.str)) := nice_list fun d hd => by
  obtain ⟨y, hy, rfl⟩ := List.mem_map.mp hd
  exact nice_str 0 (h y hy).str
/-! ### places of names, changes -/
theorem idx_uniq {ns : List Str} (nd : ns.Nodup) {i : Nat} {x : Str} (h : ns[i]? = some x) : ns.idxOf x = i := by
  obtain ⟨h1, h2⟩ := idx_at (List.mem_of_getElem? h)
  have a := (List.getElem?_eq_some_iff.mp h).1
  have b := (List.getElem?_eq_some_iff.mp h1).1
  have e : ns[ns.idxOf x]'b = ns[i]'a := by
    have q1 := (List.getElem?_eq_some_iff.mp h).2
    have q2 := (List.getElem?_eq_some_iff.mp h1).2
    rw [q1, q2]
  exact (List.getElem_inj nd).mp e
theorem nIx_uniq {ns : List Str} (nd : ns.Nodup) {i : Nat} {x : Str} (h : ns[i]? = some x) : nIx ns x = (i : Int) := by unfold nIx; rw [idx_uniq nd h]
theorem has_no {B : Bk} (ok : BkOk B) {x : Str} (h : x ∉ B.names) : hasB B x = false := by
  cases e : hasB B x with
  | false => rfl
  | true => exact absurd ((has_mem ok).mp e) h
theorem sput_new {ws : List (Str × (Int × Int × Int))} {x : Str} {w : Int × Int × Int} (h : (sval ws x).isSome = false) : sput ws x w = ws ++ [(x, w)] := by
  unfold sput
  rw [sval_any, h, if_neg (by decide)]
theorem BkOk.work {B : Bk} (h : BkOk B) {n : Str} {w : Int × Int × Int} (hn : nameZ n = true) (hr : hasB B n = true ∨ B.names.length < 8) : BkOk (pwDo B n w) := by
  unfold pwDo
  cases e : hasB B n with
  | true =>
    have e' : (sval B.works n).isSome = true := e
    have ea : (B.works.any fun p => decide (p.1 = n)) = true := by rw [sval_any]; exact e'
    refine ⟨?_, h.nd, h.le, h.nz, h.pr, h.pl⟩
    show B.names = (sput B.works n w).map (·.1)
    unfold sput
    rw [if_pos ea, List.map_map, h.nm]
    refine List.map_congr_left fun p _ => ?_
    show p.1 = (if p.1 = n then (p.1, w) else p).1
    split <;> rfl
  | false =>
    have e' : (sval B.works n).isSome = false := e
    have hn' : n ∉ B.names := fun q => by rw [(has_mem h).mpr q] at e; cases e
    have hl : B.names.length < 8 := hr.resolve_left fun q => by rw [q] at e; cases e
    refine ⟨?_, ?_, ?_, ?_, ?_, h.pl⟩
    · show B.names ++ [n] = (sput B.works n w).map (·.1)
      rw [sput_new e', List.map_append, h.nm]
      rfl
    · show (B.names ++ [n]).Nodup
      rw [List.nodup_append]
      exact ⟨h.nd, by simp, fun x hx y hy => by rw [List.mem_singleton] at hy; rw [hy]; exact fun q => hn' (q ▸ hx)⟩
    · show (B.names ++ [n]).length ≤ 8
      rw [List.length_append]
      show _ + 1 ≤ 8
      omega
    · intro x hx
      have hx : x ∈ B.names ++ [n] := hx
      rcases List.mem_append.mp hx with q | q
      · exact h.nz x q
      · rw [List.mem_singleton] at q; rw [q]; exact hn
    · intro p hp
      obtain ⟨q1, q2⟩ := h.pr p hp
      exact ⟨List.mem_append_left _ q1, List.mem_append_left _ q2⟩
theorem BkOk.need {B : Bk} (h : BkOk B) {a b : Str} (ha : hasB B a = true) (hb : hasB B b = true) (hl : B.pairs.length < 100) : BkOk (pnDo B a b) := by
  refine ⟨h.nm, h.nd, h.le, h.nz, fun p hp => ?_, ?_⟩
  · have hp : p ∈ (if (a, b) ∈ B.pairs then B.pairs else B.pairs ++ [(a, b)]) := hp
    split at hp
    · exact h.pr p hp
    · rcases List.mem_append.mp hp with q | q
      · exact h.pr p q
      · rw [List.mem_singleton] at q
        rw [q]
        exact ⟨(has_mem h).mp ha, (has_mem h).mp hb⟩
  · show (if (a, b) ∈ B.pairs then B.pairs else B.pairs ++ [(a, b)]).length ≤ 100
    split
    · exact h.pl
    · rw [List.length_append]
      show _ + 1 ≤ 100
      omega
theorem BkOk.free {B : Bk} (h : BkOk B) {a b : Str} : BkOk (fnDo B a b) :=
  ⟨h.nm, h.nd, h.le, h.nz, fun p hp => h.pr p (List.mem_filter.mp hp).1, Nat.le_trans (List.length_filter_le _ _) h.pl⟩
theorem BkOk.drop {B : Bk} (h : BkOk B) {a : Str} : BkOk (drDo B a) := by
  refine ⟨?_, h.nd.filter _, Nat.le_trans (List.length_filter_le _ _) h.le, fun n hn => h.nz n (List.mem_filter.mp hn).1, fun p hp => ?_, Nat.le_trans (List.length_filter_le _ _) h.pl⟩
  · show (B.names.filter fun n => !decide (n = a)) = (sdrop B.works a).map (·.1)
    unfold sdrop
    rw [h.nm, List.filter_map]
    congr 1
    refine List.filter_congr fun p _ => ?_
    show (!decide (p.1 = a)) = decide (p.1 ≠ a)
    simp
  · obtain ⟨hp, hq⟩ := List.mem_filter.mp hp
    obtain ⟨h1, h2⟩ := h.pr p hp
    have hq : ¬ (a = p.1 ∨ a = p.2) := by simpa using hq
    exact ⟨List.mem_filter.mpr ⟨h1, by simp; exact fun e => hq (.inl e.symm)⟩, List.mem_filter.mpr ⟨h2, by simp; exact fun e => hq (.inr e.symm)⟩⟩
end DL

end
section
set_option maxRecDepth 100000
set_option maxHeartbeats 400000
/-! the rows that are to be refused (k63) -/
namespace DL
open PySem PySem.Spec PyProof.Rows L2
structure SzS (n : Nat) (z : Str) : Prop where
  h : z.length ≤ n
theorem SzS.add {m n : Nat} {x y : Str} (hx : SzS m x) (hy : SzS n y) : SzS (m + n) (x ++ y) := ⟨by rw [addZ_len]; have := hx.h; have := hy.h; omega⟩
theorem SzS.le {m n : Nat} {x : Str} (hx : SzS m x) (h : m ≤ n) : x.length ≤ n := Nat.le_trans hx.h h
structure NoB (z : Str) : Prop where
  h : 32 ∉ z.cps.toList
theorem NoB.add {x y : Str} (hx : NoB x) (hy : NoB y) : NoB (x ++ y) := ⟨by
  show 32 ∉ TL.tl (x ++ y)
  rw [TL.tl_append]
  intro q
  rcases List.mem_append.mp q with q | q
  · exact hx.h q
  · exact hy.h q⟩
theorem name_noB {z : Str} (h : nameZ z = true) : NoB z := ⟨fun q => by have := (name_of h).2.2 32 q; omega⟩
theorem name_sz {z : Str} (h : nameZ z = true) : SzS 8 z := ⟨(name_of h).2.1⟩
theorem alw_nil {α : Type} {Q : α → Prop} : ∀ x ∈ ([] : List α), Q x := fun _ h => by cases h
theorem alw_cons {α : Type} {Q : α → Prop} {x : α} {xs : List α} (h : Q x) (g : ∀ y ∈ xs, Q y) : ∀ y ∈ x :: xs, Q y := fun y hy => by
  rcases List.mem_cons.mp hy with rfl | hy
  · exact h
  · exact g y hy
theorem blank_tl : TL.tl (Str.ofString " ") = 32 :: [] := by decide +kernel
/-- words joined, split again -/
theorem spl_join {row : Str} {ws : List Str} (hne : ws ≠ []) (hn : ∀ w ∈ ws, NoB w) (h : row = Txt.join " " ws) : Txt.split row " " = ws := by
  rw [h]
  exact TL.split_join blank_tl (by decide +kernel) hne fun p hp => (hn p hp).h
def markE : Er → Int
  | .row => 1
  | .name => 2
  | .text => 3
  | .room => 4
  | .order => 5
def GoodRow (P : Bk → Prop) (p : Str × Int) : Prop := ∃ e, p.2 = markE e ∧ p.1.length ≤ 1000 ∧ Small (Txt.split p.1 " ") ∧ ∀ B, P B → SErr B (Txt.split p.1 " ") e
theorem goodRow {P : Bk → Prop} {row : Str} {k : Int} {ws : List Str} {e : Er} (hk : k = markE e) (hl : row.length ≤ 1000) (hs : Txt.split row " " = ws) (h1 : ws.length ≤ 1000) (h2 : ∀ w ∈ ws, w.length ≤ 100) (h : ∀ B, P B → SErr B ws e) : GoodRow P (row, k) :=
  ⟨e, hk, hl, by show Small (Txt.split row " "); rw [hs]; exact ⟨h1, h2⟩, fun B hB => by show SErr B (Txt.split row " ") e; rw [hs]; exact h B hB⟩
theorem GoodRow.mono {P P' : Bk → Prop} {p : Str × Int} (h : GoodRow P p) (g : ∀ B, P' B → P B) : GoodRow P' p := by
  obtain ⟨e, h1, h2, h3, h4⟩ := h
  exact ⟨e, h1, h2, h3, fun B hB => h4 B (g B hB)⟩
theorem said_work {r : List Str} : saidB ("work" :: r) = decide (r.length = 4) := by rw [saidB_cons, if_pos rfl]
theorem said_need {r : List Str} : saidB ("need" :: r) = decide (r.length = 2) := by rw [saidB_cons, if_neg (by decide +kernel), if_pos (.inl rfl)]
theorem said_free {r : List Str} : saidB ("free" :: r) = decide (r.length = 2) := by rw [saidB_cons, if_neg (by decide +kernel), if_pos (.inr rfl)]
theorem said_8 {f : Str} {r : List Str} (h : f ∈ (["drop", "show", "price", "plan", "why", "spare", "budget", "bonus"] : List Str)) : saidB (f :: r) = decide (r.length = 1) := by
  have n1 : f ≠ "work" := fun e => by rw [e] at h; exact absurd h (by decide +kernel)
  have n2 : ¬ (f = "need" ∨ f = "free") := fun e => by rcases e with e | e <;> (rw [e] at h; exact absurd h (by decide +kernel))
  rw [saidB_cons, if_neg n1, if_neg n2, if_pos h]
theorem said_3 {f : Str} {r : List Str} (h : f ∈ (["names", "ends", "curve"] : List Str)) : saidB (f :: r) = decide (r.length = 0) := by
  have n1 : f ≠ "work" := fun e => by rw [e] at h; exact absurd h (by decide +kernel)
  have n2 : ¬ (f = "need" ∨ f = "free") := fun e => by rcases e with e | e <;> (rw [e] at h; exact absurd h (by decide +kernel))
  have n3 : f ∉ (["drop", "show", "price", "plan", "why", "spare", "budget", "bonus"] : List Str) := fun q => by
    simp only [List.mem_cons, List.not_mem_nil, or_false] at h
    rcases h with rfl | rfl | rfl <;> exact absurd q (by decide +kernel)
  rw [saidB_cons, if_neg n1, if_neg n2, if_neg n3, decide_eq_true h, Bool.true_and]
theorem said_long {f : Str} {r : List Str} (h : 8 < f.length) : saidB (f :: r) = false := by
  have ne : ∀ z : Str, z.length ≤ 8 → f ≠ z := fun z hz e => by rw [e] at h; omega
  have nm : ∀ zs : List Str, (∀ z ∈ zs, z.length ≤ 8) → f ∉ zs := fun zs hz q => ne f (hz f q) rfl
  rw [saidB_cons, if_neg (ne _ (by decide +kernel)), if_neg (fun e => e.elim (ne _ (by decide +kernel)) (ne _ (by decide +kernel))), if_neg (nm _ (by decide +kernel)), decide_eq_false (nm _ (by decide +kernel)), Bool.false_and]
theorem okN_name {z : Str} (h : nameZ z = true) : okN z = false := by
  obtain ⟨h1, _, h3⟩ := name_of h
  unfold okN allZ
  cases e : z.cps.toList with
  | nil =>
    have : z.cps.toList.length = z.length := Array.length_toList
    rw [e] at this
    simp at this
    omega
  | cons n r =>
    have hn := h3 n (by rw [e]; exact List.mem_cons_self)
    have : decide (n ∈ figs.cps.toList) = false := decide_eq_false fun q => by
      have ef : figs.cps.toList = [48, 49, 50, 51, 52, 53, 54, 55, 56, 57] := by decide +kernel
      rw [ef] at q
      simp only [List.mem_cons, List.not_mem_nil, or_false] at q
      omega
    rw [List.all_cons, this]
    simp
structure CtxN (a u m : Str) (B : Bk) : Prop where
  ha : hasB B a = true
  hu : hasB B u = false
  hm : hasB B m = false
  nm : nameZ m = false
structure CtxT (a b c u : Str) (B : Bk) : Prop where
  ha : hasB B a = true
  hb : hasB B b = true
  hc : hasB B c = true
  hu : hasB B u = false
  len : B.names.length = 8
  na : nameZ a = true
  nu : nameZ u = true
  daa : ¬ MQ.Dag B.names.length (NeedIn B a a)
  dba : ¬ MQ.Dag B.names.length (NeedIn B b a)
  dca : ¬ MQ.Dag B.names.length (NeedIn B c a)
  dcb : ¬ MQ.Dag B.names.length (NeedIn B c b)
theorem rep_31 : repZ (Str.ofString "9") 31 = Str.ofString "9999999999999999999999999999999" := by decide +kernel
theorem rep_30 : repZ (Str.ofString "9") 30 = Str.ofString "999999999999999999999999999999" := by decide +kernel
theorem lz_0 : (Str.ofString "").cps.toList = [] := by decide +kernel
theorem lz_1 : (Str.ofString " names").cps.toList = [32, 110, 97, 109, 101, 115] := by decide +kernel
theorem lz_2 : (Str.ofString "names ").cps.toList = [110, 97, 109, 101, 115, 32] := by decide +kernel
theorem lz_3 : (Str.ofString "name").cps.toList = [110, 97, 109, 101] := by decide +kernel
theorem lz_4 : (Str.ofString "Names").cps.toList = [78, 97, 109, 101, 115] := by decide +kernel
theorem lz_5 : (Str.ofString "work").cps.toList = [119, 111, 114, 107] := by decide +kernel
theorem lz_6 : (Str.ofString "work ").cps.toList = [119, 111, 114, 107, 32] := by decide +kernel
theorem lz_7 : (Str.ofString " 3 2").cps.toList = [32, 51, 32, 50] := by decide +kernel
theorem lz_8 : (Str.ofString " 3 2 1 0").cps.toList = [32, 51, 32, 50, 32, 49, 32, 48] := by decide +kernel
theorem lz_9 : (Str.ofString "need ").cps.toList = [110, 101, 101, 100, 32] := by decide +kernel
theorem lz_10 : (Str.ofString " ").cps.toList = [32] := by decide +kernel
theorem lz_11 : (Str.ofString "free ").cps.toList = [102, 114, 101, 101, 32] := by decide +kernel
theorem lz_12 : (Str.ofString "drop").cps.toList = [100, 114, 111, 112] := by decide +kernel
theorem lz_13 : (Str.ofString "drop ").cps.toList = [100, 114, 111, 112, 32] := by decide +kernel
theorem lz_14 : (Str.ofString "show").cps.toList = [115, 104, 111, 119] := by decide +kernel
theorem lz_15 : (Str.ofString "show ").cps.toList = [115, 104, 111, 119, 32] := by decide +kernel
theorem lz_16 : (Str.ofString "ends 3").cps.toList = [101, 110, 100, 115, 32, 51] := by decide +kernel
theorem lz_17 : (Str.ofString "ends ").cps.toList = [101, 110, 100, 115, 32] := by decide +kernel
theorem lz_18 : (Str.ofString "curve ").cps.toList = [99, 117, 114, 118, 101, 32] := by decide +kernel
theorem lz_19 : (Str.ofString "price").cps.toList = [112, 114, 105, 99, 101] := by decide +kernel
theorem lz_20 : (Str.ofString "price 3 4").cps.toList = [112, 114, 105, 99, 101, 32, 51, 32, 52] := by decide +kernel
theorem lz_21 : (Str.ofString "plan 3 ").cps.toList = [112, 108, 97, 110, 32, 51, 32] := by decide +kernel
theorem lz_22 : (Str.ofString "why").cps.toList = [119, 104, 121] := by decide +kernel
theorem lz_23 : (Str.ofString "spare").cps.toList = [115, 112, 97, 114, 101] := by decide +kernel
theorem lz_24 : (Str.ofString "spare 1 2").cps.toList = [115, 112, 97, 114, 101, 32, 49, 32, 50] := by decide +kernel
theorem lz_25 : (Str.ofString "abcdefgh").cps.toList = [97, 98, 99, 100, 101, 102, 103, 104] := by decide +kernel
theorem lz_26 : (Str.ofString "budget").cps.toList = [98, 117, 100, 103, 101, 116] := by decide +kernel
theorem lz_27 : (Str.ofString "bonus 1 2").cps.toList = [98, 111, 110, 117, 115, 32, 49, 32, 50] := by decide +kernel
theorem lz_28 : (Str.ofString "budget 3 ").cps.toList = [98, 117, 100, 103, 101, 116, 32, 51, 32] := by decide +kernel
theorem lz_29 : (Str.ofString "plan ").cps.toList = [112, 108, 97, 110, 32] := by decide +kernel
theorem lz_30 : (Str.ofString "price ").cps.toList = [112, 114, 105, 99, 101, 32] := by decide +kernel
theorem lz_31 : (Str.ofString "why ").cps.toList = [119, 104, 121, 32] := by decide +kernel
theorem lz_32 : (Str.ofString "spare ").cps.toList = [115, 112, 97, 114, 101, 32] := by decide +kernel
theorem lz_33 : (Str.ofString " 3 2 1").cps.toList = [32, 51, 32, 50, 32, 49] := by decide +kernel
theorem lz_34 : (Str.ofString " x 2 1").cps.toList = [32, 120, 32, 50, 32, 49] := by decide +kernel
theorem lz_35 : (Str.ofString " 1 2 x").cps.toList = [32, 49, 32, 50, 32, 120] := by decide +kernel
theorem lz_36 : (Str.ofString " 3 -2 1").cps.toList = [32, 51, 32, 45, 50, 32, 49] := by decide +kernel
theorem lz_37 : (Str.ofString " 3 2 01").cps.toList = [32, 51, 32, 50, 32, 48, 49] := by decide +kernel
theorem lz_38 : (Str.ofString " 3  1").cps.toList = [32, 51, 32, 32, 49] := by decide +kernel
theorem lz_39 : (Str.ofString " 2 3 1").cps.toList = [32, 50, 32, 51, 32, 49] := by decide +kernel
theorem lz_40 : (Str.ofString " 0 1 0").cps.toList = [32, 48, 32, 49, 32, 48] := by decide +kernel
theorem lz_41 : (Str.ofString "price -1").cps.toList = [112, 114, 105, 99, 101, 32, 45, 49] := by decide +kernel
theorem lz_42 : (Str.ofString "plan 00").cps.toList = [112, 108, 97, 110, 32, 48, 48] := by decide +kernel
theorem lz_43 : (Str.ofString "why +1").cps.toList = [119, 104, 121, 32, 43, 49] := by decide +kernel
theorem lz_44 : (Str.ofString "budget -1").cps.toList = [98, 117, 100, 103, 101, 116, 32, 45, 49] := by decide +kernel
theorem lz_45 : (Str.ofString "bonus x").cps.toList = [98, 111, 110, 117, 115, 32, 120] := by decide +kernel
theorem lz_46 : (Str.ofString "budget ").cps.toList = [98, 117, 100, 103, 101, 116, 32] := by decide +kernel
theorem lz_47 : (Str.ofString "spare 1_0").cps.toList = [115, 112, 97, 114, 101, 32, 49, 95, 48] := by decide +kernel
theorem lz_48 : (Str.ofString "plan 1.").cps.toList = [112, 108, 97, 110, 32, 49, 46] := by decide +kernel
theorem lz_49 : (Str.ofString "9999999999999999999999999999999").cps.toList = [57, 57, 57, 57, 57, 57, 57, 57, 57, 57, 57, 57, 57, 57, 57, 57, 57, 57, 57, 57, 57, 57, 57, 57, 57, 57, 57, 57, 57, 57, 57] := by decide +kernel
theorem lz_50 : (Str.ofString " 1 1").cps.toList = [32, 49, 32, 49] := by decide +kernel
theorem lz_51 : (Str.ofString " 0 0 0").cps.toList = [32, 48, 32, 48, 32, 48] := by decide +kernel
theorem lz_52 : (Str.ofString "999999999999999999999999999999").cps.toList = [57, 57, 57, 57, 57, 57, 57, 57, 57, 57, 57, 57, 57, 57, 57, 57, 57, 57, 57, 57, 57, 57, 57, 57, 57, 57, 57, 57, 57, 57] := by decide +kernel
theorem lz_53 : (Str.ofString "3").cps.toList = [51] := by decide +kernel
theorem lz_54 : (Str.ofString "2").cps.toList = [50] := by decide +kernel
theorem lz_55 : (Str.ofString "1").cps.toList = [49] := by decide +kernel
theorem lz_56 : (Str.ofString "0").cps.toList = [48] := by decide +kernel
theorem lz_57 : (Str.ofString "names").cps.toList = [110, 97, 109, 101, 115] := by decide +kernel
theorem lz_58 : (Str.ofString "free").cps.toList = [102, 114, 101, 101] := by decide +kernel
theorem lz_59 : (Str.ofString "need").cps.toList = [110, 101, 101, 100] := by decide +kernel
theorem lz_60 : (Str.ofString "4").cps.toList = [52] := by decide +kernel
theorem lz_61 : (Str.ofString "curve").cps.toList = [99, 117, 114, 118, 101] := by decide +kernel
theorem lz_62 : (Str.ofString "ends").cps.toList = [101, 110, 100, 115] := by decide +kernel
theorem lz_63 : (Str.ofString "bonus").cps.toList = [98, 111, 110, 117, 115] := by decide +kernel
theorem lz_64 : (Str.ofString "plan").cps.toList = [112, 108, 97, 110] := by decide +kernel
theorem lz_65 : (Str.ofString "x").cps.toList = [120] := by decide +kernel
theorem lz_66 : (Str.ofString "01").cps.toList = [48, 49] := by decide +kernel
theorem lz_67 : (Str.ofString "-2").cps.toList = [45, 50] := by decide +kernel
theorem lz_68 : (Str.ofString "-1").cps.toList = [45, 49] := by decide +kernel
theorem lz_69 : (Str.ofString "+1").cps.toList = [43, 49] := by decide +kernel
theorem lz_70 : (Str.ofString "00").cps.toList = [48, 48] := by decide +kernel
theorem lz_71 : (Str.ofString "1.").cps.toList = [49, 46] := by decide +kernel
theorem lz_72 : (Str.ofString "1_0").cps.toList = [49, 95, 48] := by decide +kernel
local macro_rules
  | `(tactic| walk_at "rowz") => `(tactic| (apply TL.ext_tl; rw [TL.join_eq, TL.tl_join]; simp only [TL.tl_append, TL.tl, List.map_cons, List.map_nil, TL.joinL, lz_0, lz_1, lz_2, lz_3, lz_4, lz_5, lz_6, lz_7, lz_8, lz_9, lz_10, lz_11, lz_12, lz_13, lz_14, lz_15, lz_16, lz_17, lz_18, lz_19, lz_20, lz_21, lz_22, lz_23, lz_24, lz_25, lz_26, lz_27, lz_28, lz_29, lz_30, lz_31, lz_32, lz_33, lz_34, lz_35, lz_36, lz_37, lz_38, lz_39, lz_40, lz_41, lz_42, lz_43, lz_44, lz_45, lz_46, lz_47, lz_48, lz_49, lz_50, lz_51, lz_52, lz_53, lz_54, lz_55, lz_56, lz_57, lz_58, lz_59, lz_60, lz_61, lz_62, lz_63, lz_64, lz_65, lz_66, lz_67, lz_68, lz_69, lz_70, lz_71, lz_72, List.cons_append, List.nil_append, List.append_assoc]))
local macro_rules
  | `(tactic| walk_at "szz") => `(tactic| first | (with_reducible assumption) | ((with_reducible apply SzS.add) <;> walk_at "szz") | exact (SzS.mk (n := 40) (by decide +kernel)))
local macro_rules
  | `(tactic| walk_at "nbz") => `(tactic| first | (with_reducible assumption) | ((with_reducible apply NoB.add) <;> walk_at "nbz") | exact NoB.mk (by decide +kernel))
/-- texts put together, in a walk -/
theorem ev_addB {K : PySem.W.Frag} {c : Cq K} {b : Bool} {ρ : Rho} {ta tb : TE} {x y : Str} {n : Nat} (ha : EvR c ta ρ (.str x)) (hb : EvR c tb ρ (.str y)) (h : SzS n (x ++ y)) (hn : n ≤ 100000) : Ev c b (tOp (fun x y H Q => ∃ i j, x = V.str i ∧ y = V.str j ∧ i.length + j.length ≤ sizeLine ∧ Q (.str (i ++ j)) H) ta tb) ρ (.str (x ++ y)) :=
  ev_addS ha hb (by have := h.h; rw [addZ_len] at this; omega)
def rW0 (a u : Str) : List Str := [(Str.ofString ""), (Str.ofString " names"), (Str.ofString "names "), (Str.ofString "name"), (Str.ofString "Names"), (Str.ofString "work"), (((Str.ofString "work ") ++ u) ++ (Str.ofString " 3 2")), (((Str.ofString "work ") ++ a) ++ (Str.ofString " 3 2 1 0"))]
def rW1 (a u : Str) : List Str := [((Str.ofString "need ") ++ a), ((((((Str.ofString "need ") ++ a) ++ (Str.ofString " ")) ++ a) ++ (Str.ofString " ")) ++ a), ((Str.ofString "free ") ++ a), (Str.ofString "drop"), ((((Str.ofString "drop ") ++ a) ++ (Str.ofString " ")) ++ a)]
def rW2 (a u : Str) : List Str := [(Str.ofString "show"), (((Str.ofString "show ") ++ a) ++ (Str.ofString " ")), (Str.ofString "ends 3"), (Str.ofString "ends "), ((Str.ofString "curve ") ++ a), (Str.ofString "price"), (Str.ofString "price 3 4")]
def rW3 (a u : Str) : List Str := [(Str.ofString "plan 3 "), (Str.ofString "why"), (Str.ofString "spare"), (Str.ofString "spare 1 2"), (u ++ (Str.ofString "abcdefgh")), (Str.ofString "budget"), (Str.ofString "bonus 1 2"), (Str.ofString "budget 3 ")]
def rW4 (a u : Str) : List (Str × Int) := [((Str.ofString "plan "), 3), ((Str.ofString "price "), 3), ((Str.ofString "why "), 3), ((Str.ofString "spare "), 3)]
def rN0 (a u m : Str) : List Str := [(((Str.ofString "work ") ++ m) ++ (Str.ofString " 3 2 1")), (((Str.ofString "work ") ++ m) ++ (Str.ofString " x 2 1")), ((((Str.ofString "need ") ++ u) ++ (Str.ofString " ")) ++ a), ((((Str.ofString "need ") ++ a) ++ (Str.ofString " ")) ++ u)]
def rN1 (a u m : Str) : List Str := [((((Str.ofString "need ") ++ m) ++ (Str.ofString " ")) ++ u), ((((Str.ofString "need ") ++ u) ++ (Str.ofString " ")) ++ u), ((((Str.ofString "free ") ++ u) ++ (Str.ofString " ")) ++ a), ((((Str.ofString "free ") ++ a) ++ (Str.ofString " ")) ++ m)]
def rN2 (a u m : Str) : List Str := [((Str.ofString "drop ") ++ u), ((Str.ofString "drop ") ++ m), ((Str.ofString "show ") ++ u), ((Str.ofString "show ") ++ m), ((((Str.ofString "need ") ++ a) ++ (Str.ofString " ")) ++ m), (((Str.ofString "work ") ++ m) ++ (Str.ofString " 1 2 x"))]
def rT0 (a b c u : Str) : List Str := [(((Str.ofString "work ") ++ a) ++ (Str.ofString " x 2 1")), (((Str.ofString "work ") ++ a) ++ (Str.ofString " 3 -2 1")), (((Str.ofString "work ") ++ a) ++ (Str.ofString " 3 2 01")), (((Str.ofString "work ") ++ u) ++ (Str.ofString " 3  1"))]
def rT1 (a b c u : Str) : List Str := [(((Str.ofString "work ") ++ u) ++ (Str.ofString " 1 2 x")), (((Str.ofString "work ") ++ a) ++ (Str.ofString " 2 3 1")), (((Str.ofString "work ") ++ u) ++ (Str.ofString " 2 3 1")), (((Str.ofString "work ") ++ u) ++ (Str.ofString " 0 1 0"))]
def rT2 (a b c u : Str) : List Str := [(Str.ofString "price -1"), (Str.ofString "plan 00"), (Str.ofString "why +1"), (Str.ofString "budget -1"), (Str.ofString "bonus x"), (Str.ofString "budget ")]
def rT3 (a b c u : Str) : List Str := [(Str.ofString "spare 1_0"), (Str.ofString "plan 1."), ((Str.ofString "price ") ++ (Str.ofString "9999999999999999999999999999999")), (((((Str.ofString "work ") ++ u) ++ (Str.ofString " ")) ++ (Str.ofString "9999999999999999999999999999999")) ++ (Str.ofString " 1 1")), ((Str.ofString "why ") ++ a)]
def rT4 (a b c u : Str) : List (Str × Int) := [((((Str.ofString "work ") ++ u) ++ (Str.ofString " 3 2 1")), 4), ((((Str.ofString "work ") ++ u) ++ (Str.ofString " 0 0 0")), 4)]
def rT5 (a b c u : Str) : List Str := [((((Str.ofString "need ") ++ a) ++ (Str.ofString " ")) ++ a), ((((Str.ofString "need ") ++ b) ++ (Str.ofString " ")) ++ a), ((((Str.ofString "need ") ++ c) ++ (Str.ofString " ")) ++ a), ((((Str.ofString "need ") ++ c) ++ (Str.ofString " ")) ++ b)]
def rTx (u : Str) : Str × Int := ((((((Str.ofString "work ") ++ u) ++ (Str.ofString " ")) ++ (Str.ofString "999999999999999999999999999999")) ++ (Str.ofString " 1 1")), 4)
theorem gW0 {a u : Str} (na : nameZ a = true) (nu : nameZ u = true) : ∀ r ∈ rW0 a u, GoodRow (fun _ => True) (r, 1) := by
  have la := name_sz na; have lu := name_sz nu; have ba := name_noB na; have bu := name_noB nu
  exact (alw_cons (goodRow (ws := [(Str.ofString "")]) (e := .row) rfl (SzS.le (by walk_at "szz") (by decide)) (by decide +kernel) (Nat.le_of_ble_eq_true rfl) (alw_cons (SzS.le (by walk_at "szz") (by decide)) alw_nil) fun B h => .row (by decide +kernel)) 
    (alw_cons (goodRow (ws := [(Str.ofString ""), (Str.ofString "names")]) (e := .row) rfl (SzS.le (by walk_at "szz") (by decide)) (by decide +kernel) (Nat.le_of_ble_eq_true rfl) (alw_cons (SzS.le (by walk_at "szz") (by decide)) (alw_cons (SzS.le (by walk_at "szz") (by decide)) alw_nil)) fun B h => .row (by decide +kernel)) 
    (alw_cons (goodRow (ws := [(Str.ofString "names"), (Str.ofString "")]) (e := .row) rfl (SzS.le (by walk_at "szz") (by decide)) (by decide +kernel) (Nat.le_of_ble_eq_true rfl) (alw_cons (SzS.le (by walk_at "szz") (by decide)) (alw_cons (SzS.le (by walk_at "szz") (by decide)) alw_nil)) fun B h => .row (by decide +kernel)) 
    (alw_cons (goodRow (ws := [(Str.ofString "name")]) (e := .row) rfl (SzS.le (by walk_at "szz") (by decide)) (by decide +kernel) (Nat.le_of_ble_eq_true rfl) (alw_cons (SzS.le (by walk_at "szz") (by decide)) alw_nil) fun B h => .row (by decide +kernel)) 
    (alw_cons (goodRow (ws := [(Str.ofString "Names")]) (e := .row) rfl (SzS.le (by walk_at "szz") (by decide)) (by decide +kernel) (Nat.le_of_ble_eq_true rfl) (alw_cons (SzS.le (by walk_at "szz") (by decide)) alw_nil) fun B h => .row (by decide +kernel)) 
    (alw_cons (goodRow (ws := [(Str.ofString "work")]) (e := .row) rfl (SzS.le (by walk_at "szz") (by decide)) (by decide +kernel) (Nat.le_of_ble_eq_true rfl) (alw_cons (SzS.le (by walk_at "szz") (by decide)) alw_nil) fun B h => .row (by decide +kernel)) 
    (alw_cons (goodRow (ws := [(Str.ofString "work"), u, (Str.ofString "3"), (Str.ofString "2")]) (e := .row) rfl (SzS.le (by walk_at "szz") (by decide)) (spl_join (ws := [(Str.ofString "work"), u, (Str.ofString "3"), (Str.ofString "2")]) (by simp) (alw_cons (by walk_at "nbz") (alw_cons (by walk_at "nbz") (alw_cons (by walk_at "nbz") (alw_cons (by walk_at "nbz") alw_nil)))) (by walk_at "rowz")) (Nat.le_of_ble_eq_true rfl) (alw_cons (SzS.le (by walk_at "szz") (by decide)) (alw_cons (SzS.le (by walk_at "szz") (by decide)) (alw_cons (SzS.le (by walk_at "szz") (by decide)) (alw_cons (SzS.le (by walk_at "szz") (by decide)) alw_nil)))) fun B h => .row (by rw [said_work]; rfl)) 
    (alw_cons (goodRow (ws := [(Str.ofString "work"), a, (Str.ofString "3"), (Str.ofString "2"), (Str.ofString "1"), (Str.ofString "0")]) (e := .row) rfl (SzS.le (by walk_at "szz") (by decide)) (spl_join (ws := [(Str.ofString "work"), a, (Str.ofString "3"), (Str.ofString "2"), (Str.ofString "1"), (Str.ofString "0")]) (by simp) (alw_cons (by walk_at "nbz") (alw_cons (by walk_at "nbz") (alw_cons (by walk_at "nbz") (alw_cons (by walk_at "nbz") (alw_cons (by walk_at "nbz") (alw_cons (by walk_at "nbz") alw_nil)))))) (by walk_at "rowz")) (Nat.le_of_ble_eq_true rfl) (alw_cons (SzS.le (by walk_at "szz") (by decide)) (alw_cons (SzS.le (by walk_at "szz") (by decide)) (alw_cons (SzS.le (by walk_at "szz") (by decide)) (alw_cons (SzS.le (by walk_at "szz") (by decide)) (alw_cons (SzS.le (by walk_at "szz") (by decide)) (alw_cons (SzS.le (by walk_at "szz") (by decide)) alw_nil)))))) fun B h => .row (by rw [said_work]; rfl)) 
    alw_nil))))))))
theorem gW1 {a u : Str} (na : nameZ a = true) (nu : nameZ u = true) : ∀ r ∈ rW1 a u, GoodRow (fun _ => True) (r, 1) := by
  have la := name_sz na; have lu := name_sz nu; have ba := name_noB na; have bu := name_noB nu
  exact (alw_cons (goodRow (ws := [(Str.ofString "need"), a]) (e := .row) rfl (SzS.le (by walk_at "szz") (by decide)) (spl_join (ws := [(Str.ofString "need"), a]) (by simp) (alw_cons (by walk_at "nbz") (alw_cons (by walk_at "nbz") alw_nil)) (by walk_at "rowz")) (Nat.le_of_ble_eq_true rfl) (alw_cons (SzS.le (by walk_at "szz") (by decide)) (alw_cons (SzS.le (by walk_at "szz") (by decide)) alw_nil)) fun B h => .row (by rw [said_need]; rfl)) 
    (alw_cons (goodRow (ws := [(Str.ofString "need"), a, a, a]) (e := .row) rfl (SzS.le (by walk_at "szz") (by decide)) (spl_join (ws := [(Str.ofString "need"), a, a, a]) (by simp) (alw_cons (by walk_at "nbz") (alw_cons (by walk_at "nbz") (alw_cons (by walk_at "nbz") (alw_cons (by walk_at "nbz") alw_nil)))) (by walk_at "rowz")) (Nat.le_of_ble_eq_true rfl) (alw_cons (SzS.le (by walk_at "szz") (by decide)) (alw_cons (SzS.le (by walk_at "szz") (by decide)) (alw_cons (SzS.le (by walk_at "szz") (by decide)) (alw_cons (SzS.le (by walk_at "szz") (by decide)) alw_nil)))) fun B h => .row (by rw [said_need]; rfl)) 
    (alw_cons (goodRow (ws := [(Str.ofString "free"), a]) (e := .row) rfl (SzS.le (by walk_at "szz") (by decide)) (spl_join (ws := [(Str.ofString "free"), a]) (by simp) (alw_cons (by walk_at "nbz") (alw_cons (by walk_at "nbz") alw_nil)) (by walk_at "rowz")) (Nat.le_of_ble_eq_true rfl) (alw_cons (SzS.le (by walk_at "szz") (by decide)) (alw_cons (SzS.le (by walk_at "szz") (by decide)) alw_nil)) fun B h => .row (by rw [said_free]; rfl)) 
    (alw_cons (goodRow (ws := [(Str.ofString "drop")]) (e := .row) rfl (SzS.le (by walk_at "szz") (by decide)) (by decide +kernel) (Nat.le_of_ble_eq_true rfl) (alw_cons (SzS.le (by walk_at "szz") (by decide)) alw_nil) fun B h => .row (by decide +kernel)) 
    (alw_cons (goodRow (ws := [(Str.ofString "drop"), a, a]) (e := .row) rfl (SzS.le (by walk_at "szz") (by decide)) (spl_join (ws := [(Str.ofString "drop"), a, a]) (by simp) (alw_cons (by walk_at "nbz") (alw_cons (by walk_at "nbz") (alw_cons (by walk_at "nbz") alw_nil))) (by walk_at "rowz")) (Nat.le_of_ble_eq_true rfl) (alw_cons (SzS.le (by walk_at "szz") (by decide)) (alw_cons (SzS.le (by walk_at "szz") (by decide)) (alw_cons (SzS.le (by walk_at "szz") (by decide)) alw_nil))) fun B h => .row (by rw [said_8 (by decide +kernel)]; rfl)) 
    alw_nil)))))
theorem gW2 {a u : Str} (na : nameZ a = true) (nu : nameZ u = true) : ∀ r ∈ rW2 a u, GoodRow (fun _ => True) (r, 1) := by
  have la := name_sz na; have lu := name_sz nu; have ba := name_noB na; have bu := name_noB nu
  exact (alw_cons (goodRow (ws := [(Str.ofString "show")]) (e := .row) rfl (SzS.le (by walk_at "szz") (by decide)) (by decide +kernel) (Nat.le_of_ble_eq_true rfl) (alw_cons (SzS.le (by walk_at "szz") (by decide)) alw_nil) fun B h => .row (by decide +kernel)) 
    (alw_cons (goodRow (ws := [(Str.ofString "show"), a, (Str.ofString "")]) (e := .row) rfl (SzS.le (by walk_at "szz") (by decide)) (spl_join (ws := [(Str.ofString "show"), a, (Str.ofString "")]) (by simp) (alw_cons (by walk_at "nbz") (alw_cons (by walk_at "nbz") (alw_cons (by walk_at "nbz") alw_nil))) (by walk_at "rowz")) (Nat.le_of_ble_eq_true rfl) (alw_cons (SzS.le (by walk_at "szz") (by decide)) (alw_cons (SzS.le (by walk_at "szz") (by decide)) (alw_cons (SzS.le (by walk_at "szz") (by decide)) alw_nil))) fun B h => .row (by rw [said_8 (by decide +kernel)]; rfl)) 
    (alw_cons (goodRow (ws := [(Str.ofString "ends"), (Str.ofString "3")]) (e := .row) rfl (SzS.le (by walk_at "szz") (by decide)) (by decide +kernel) (Nat.le_of_ble_eq_true rfl) (alw_cons (SzS.le (by walk_at "szz") (by decide)) (alw_cons (SzS.le (by walk_at "szz") (by decide)) alw_nil)) fun B h => .row (by decide +kernel)) 
    (alw_cons (goodRow (ws := [(Str.ofString "ends"), (Str.ofString "")]) (e := .row) rfl (SzS.le (by walk_at "szz") (by decide)) (by decide +kernel) (Nat.le_of_ble_eq_true rfl) (alw_cons (SzS.le (by walk_at "szz") (by decide)) (alw_cons (SzS.le (by walk_at "szz") (by decide)) alw_nil)) fun B h => .row (by decide +kernel)) 
    (alw_cons (goodRow (ws := [(Str.ofString "curve"), a]) (e := .row) rfl (SzS.le (by walk_at "szz") (by decide)) (spl_join (ws := [(Str.ofString "curve"), a]) (by simp) (alw_cons (by walk_at "nbz") (alw_cons (by walk_at "nbz") alw_nil)) (by walk_at "rowz")) (Nat.le_of_ble_eq_true rfl) (alw_cons (SzS.le (by walk_at "szz") (by decide)) (alw_cons (SzS.le (by walk_at "szz") (by decide)) alw_nil)) fun B h => .row (by rw [said_3 (by decide +kernel)]; rfl)) 
    (alw_cons (goodRow (ws := [(Str.ofString "price")]) (e := .row) rfl (SzS.le (by walk_at "szz") (by decide)) (by decide +kernel) (Nat.le_of_ble_eq_true rfl) (alw_cons (SzS.le (by walk_at "szz") (by decide)) alw_nil) fun B h => .row (by decide +kernel)) 
    (alw_cons (goodRow (ws := [(Str.ofString "price"), (Str.ofString "3"), (Str.ofString "4")]) (e := .row) rfl (SzS.le (by walk_at "szz") (by decide)) (by decide +kernel) (Nat.le_of_ble_eq_true rfl) (alw_cons (SzS.le (by walk_at "szz") (by decide)) (alw_cons (SzS.le (by walk_at "szz") (by decide)) (alw_cons (SzS.le (by walk_at "szz") (by decide)) alw_nil))) fun B h => .row (by decide +kernel)) 
    alw_nil)))))))
theorem gW3 {a u : Str} (na : nameZ a = true) (nu : nameZ u = true) : ∀ r ∈ rW3 a u, GoodRow (fun _ => True) (r, 1) := by
  have la := name_sz na; have lu := name_sz nu; have ba := name_noB na; have bu := name_noB nu
  exact (alw_cons (goodRow (ws := [(Str.ofString "plan"), (Str.ofString "3"), (Str.ofString "")]) (e := .row) rfl (SzS.le (by walk_at "szz") (by decide)) (by decide +kernel) (Nat.le_of_ble_eq_true rfl) (alw_cons (SzS.le (by walk_at "szz") (by decide)) (alw_cons (SzS.le (by walk_at "szz") (by decide)) (alw_cons (SzS.le (by walk_at "szz") (by decide)) alw_nil))) fun B h => .row (by decide +kernel)) 
    (alw_cons (goodRow (ws := [(Str.ofString "why")]) (e := .row) rfl (SzS.le (by walk_at "szz") (by decide)) (by decide +kernel) (Nat.le_of_ble_eq_true rfl) (alw_cons (SzS.le (by walk_at "szz") (by decide)) alw_nil) fun B h => .row (by decide +kernel)) 
    (alw_cons (goodRow (ws := [(Str.ofString "spare")]) (e := .row) rfl (SzS.le (by walk_at "szz") (by decide)) (by decide +kernel) (Nat.le_of_ble_eq_true rfl) (alw_cons (SzS.le (by walk_at "szz") (by decide)) alw_nil) fun B h => .row (by decide +kernel)) 
    (alw_cons (goodRow (ws := [(Str.ofString "spare"), (Str.ofString "1"), (Str.ofString "2")]) (e := .row) rfl (SzS.le (by walk_at "szz") (by decide)) (by decide +kernel) (Nat.le_of_ble_eq_true rfl) (alw_cons (SzS.le (by walk_at "szz") (by decide)) (alw_cons (SzS.le (by walk_at "szz") (by decide)) (alw_cons (SzS.le (by walk_at "szz") (by decide)) alw_nil))) fun B h => .row (by decide +kernel)) 
    (alw_cons (goodRow (ws := [(u ++ (Str.ofString "abcdefgh"))]) (e := .row) rfl (SzS.le (by walk_at "szz") (by decide)) (spl_join (ws := [(u ++ (Str.ofString "abcdefgh"))]) (by simp) (alw_cons (by walk_at "nbz") alw_nil) (by walk_at "rowz")) (Nat.le_of_ble_eq_true rfl) (alw_cons (SzS.le (by walk_at "szz") (by decide)) alw_nil) fun B h => .row (said_long (by have h1 := (name_of nu).1; rw [addZ_len]; have : ((Str.ofString "abcdefgh")).length = 8 := (by decide +kernel); omega))) 
    (alw_cons (goodRow (ws := [(Str.ofString "budget")]) (e := .row) rfl (SzS.le (by walk_at "szz") (by decide)) (by decide +kernel) (Nat.le_of_ble_eq_true rfl) (alw_cons (SzS.le (by walk_at "szz") (by decide)) alw_nil) fun B h => .row (by decide +kernel)) 
    (alw_cons (goodRow (ws := [(Str.ofString "bonus"), (Str.ofString "1"), (Str.ofString "2")]) (e := .row) rfl (SzS.le (by walk_at "szz") (by decide)) (by decide +kernel) (Nat.le_of_ble_eq_true rfl) (alw_cons (SzS.le (by walk_at "szz") (by decide)) (alw_cons (SzS.le (by walk_at "szz") (by decide)) (alw_cons (SzS.le (by walk_at "szz") (by decide)) alw_nil))) fun B h => .row (by decide +kernel)) 
    (alw_cons (goodRow (ws := [(Str.ofString "budget"), (Str.ofString "3"), (Str.ofString "")]) (e := .row) rfl (SzS.le (by walk_at "szz") (by decide)) (by decide +kernel) (Nat.le_of_ble_eq_true rfl) (alw_cons (SzS.le (by walk_at "szz") (by decide)) (alw_cons (SzS.le (by walk_at "szz") (by decide)) (alw_cons (SzS.le (by walk_at "szz") (by decide)) alw_nil))) fun B h => .row (by decide +kernel)) 
    alw_nil))))))))
theorem gW4 {a u : Str} (na : nameZ a = true) (nu : nameZ u = true) : ∀ p ∈ rW4 a u, GoodRow (fun _ => True) p := by
  have la := name_sz na; have lu := name_sz nu; have ba := name_noB na; have bu := name_noB nu
  exact (alw_cons (goodRow (ws := [(Str.ofString "plan"), (Str.ofString "")]) (e := .text) rfl (SzS.le (by walk_at "szz") (by decide)) (by decide +kernel) (Nat.le_of_ble_eq_true rfl) (alw_cons (SzS.le (by walk_at "szz") (by decide)) (alw_cons (SzS.le (by walk_at "szz") (by decide)) alw_nil)) fun B h => .num (by decide +kernel) (by decide +kernel)) 
    (alw_cons (goodRow (ws := [(Str.ofString "price"), (Str.ofString "")]) (e := .text) rfl (SzS.le (by walk_at "szz") (by decide)) (by decide +kernel) (Nat.le_of_ble_eq_true rfl) (alw_cons (SzS.le (by walk_at "szz") (by decide)) (alw_cons (SzS.le (by walk_at "szz") (by decide)) alw_nil)) fun B h => .num (by decide +kernel) (by decide +kernel)) 
    (alw_cons (goodRow (ws := [(Str.ofString "why"), (Str.ofString "")]) (e := .text) rfl (SzS.le (by walk_at "szz") (by decide)) (by decide +kernel) (Nat.le_of_ble_eq_true rfl) (alw_cons (SzS.le (by walk_at "szz") (by decide)) (alw_cons (SzS.le (by walk_at "szz") (by decide)) alw_nil)) fun B h => .num (by decide +kernel) (by decide +kernel)) 
    (alw_cons (goodRow (ws := [(Str.ofString "spare"), (Str.ofString "")]) (e := .text) rfl (SzS.le (by walk_at "szz") (by decide)) (by decide +kernel) (Nat.le_of_ble_eq_true rfl) (alw_cons (SzS.le (by walk_at "szz") (by decide)) (alw_cons (SzS.le (by walk_at "szz") (by decide)) alw_nil)) fun B h => .num (by decide +kernel) (by decide +kernel)) 
    alw_nil))))
theorem gN0 {a u m : Str} (na : nameZ a = true) (nu : nameZ u = true) (lm : SzS 20 m) (bm : NoB m) : ∀ r ∈ rN0 a u m, GoodRow (CtxN a u m) (r, 2) := by
  have la := name_sz na; have lu := name_sz nu; have ba := name_noB na; have bu := name_noB nu
  exact (alw_cons (goodRow (ws := [(Str.ofString "work"), m, (Str.ofString "3"), (Str.ofString "2"), (Str.ofString "1")]) (e := .name) rfl (SzS.le (by walk_at "szz") (by decide)) (spl_join (ws := [(Str.ofString "work"), m, (Str.ofString "3"), (Str.ofString "2"), (Str.ofString "1")]) (by simp) (alw_cons (by walk_at "nbz") (alw_cons (by walk_at "nbz") (alw_cons (by walk_at "nbz") (alw_cons (by walk_at "nbz") (alw_cons (by walk_at "nbz") alw_nil))))) (by walk_at "rowz")) (Nat.le_of_ble_eq_true rfl) (alw_cons (SzS.le (by walk_at "szz") (by decide)) (alw_cons (SzS.le (by walk_at "szz") (by decide)) (alw_cons (SzS.le (by walk_at "szz") (by decide)) (alw_cons (SzS.le (by walk_at "szz") (by decide)) (alw_cons (SzS.le (by walk_at "szz") (by decide)) alw_nil))))) fun B h => .chg (.work (.name h.nm))) 
    (alw_cons (goodRow (ws := [(Str.ofString "work"), m, (Str.ofString "x"), (Str.ofString "2"), (Str.ofString "1")]) (e := .name) rfl (SzS.le (by walk_at "szz") (by decide)) (spl_join (ws := [(Str.ofString "work"), m, (Str.ofString "x"), (Str.ofString "2"), (Str.ofString "1")]) (by simp) (alw_cons (by walk_at "nbz") (alw_cons (by walk_at "nbz") (alw_cons (by walk_at "nbz") (alw_cons (by walk_at "nbz") (alw_cons (by walk_at "nbz") alw_nil))))) (by walk_at "rowz")) (Nat.le_of_ble_eq_true rfl) (alw_cons (SzS.le (by walk_at "szz") (by decide)) (alw_cons (SzS.le (by walk_at "szz") (by decide)) (alw_cons (SzS.le (by walk_at "szz") (by decide)) (alw_cons (SzS.le (by walk_at "szz") (by decide)) (alw_cons (SzS.le (by walk_at "szz") (by decide)) alw_nil))))) fun B h => .chg (.work (.name h.nm))) 
    (alw_cons (goodRow (ws := [(Str.ofString "need"), u, a]) (e := .name) rfl (SzS.le (by walk_at "szz") (by decide)) (spl_join (ws := [(Str.ofString "need"), u, a]) (by simp) (alw_cons (by walk_at "nbz") (alw_cons (by walk_at "nbz") (alw_cons (by walk_at "nbz") alw_nil))) (by walk_at "rowz")) (Nat.le_of_ble_eq_true rfl) (alw_cons (SzS.le (by walk_at "szz") (by decide)) (alw_cons (SzS.le (by walk_at "szz") (by decide)) (alw_cons (SzS.le (by walk_at "szz") (by decide)) alw_nil))) fun B h => .chg (.need (.name (by simp [h.hu, h.ha])))) 
    (alw_cons (goodRow (ws := [(Str.ofString "need"), a, u]) (e := .name) rfl (SzS.le (by walk_at "szz") (by decide)) (spl_join (ws := [(Str.ofString "need"), a, u]) (by simp) (alw_cons (by walk_at "nbz") (alw_cons (by walk_at "nbz") (alw_cons (by walk_at "nbz") alw_nil))) (by walk_at "rowz")) (Nat.le_of_ble_eq_true rfl) (alw_cons (SzS.le (by walk_at "szz") (by decide)) (alw_cons (SzS.le (by walk_at "szz") (by decide)) (alw_cons (SzS.le (by walk_at "szz") (by decide)) alw_nil))) fun B h => .chg (.need (.name (by simp [h.ha, h.hu])))) 
    alw_nil))))
theorem gN1 {a u m : Str} (na : nameZ a = true) (nu : nameZ u = true) (lm : SzS 20 m) (bm : NoB m) : ∀ r ∈ rN1 a u m, GoodRow (CtxN a u m) (r, 2) := by
  have la := name_sz na; have lu := name_sz nu; have ba := name_noB na; have bu := name_noB nu
  exact (alw_cons (goodRow (ws := [(Str.ofString "need"), m, u]) (e := .name) rfl (SzS.le (by walk_at "szz") (by decide)) (spl_join (ws := [(Str.ofString "need"), m, u]) (by simp) (alw_cons (by walk_at "nbz") (alw_cons (by walk_at "nbz") (alw_cons (by walk_at "nbz") alw_nil))) (by walk_at "rowz")) (Nat.le_of_ble_eq_true rfl) (alw_cons (SzS.le (by walk_at "szz") (by decide)) (alw_cons (SzS.le (by walk_at "szz") (by decide)) (alw_cons (SzS.le (by walk_at "szz") (by decide)) alw_nil))) fun B h => .chg (.need (.name (by simp [h.hm, h.hu])))) 
    (alw_cons (goodRow (ws := [(Str.ofString "need"), u, u]) (e := .name) rfl (SzS.le (by walk_at "szz") (by decide)) (spl_join (ws := [(Str.ofString "need"), u, u]) (by simp) (alw_cons (by walk_at "nbz") (alw_cons (by walk_at "nbz") (alw_cons (by walk_at "nbz") alw_nil))) (by walk_at "rowz")) (Nat.le_of_ble_eq_true rfl) (alw_cons (SzS.le (by walk_at "szz") (by decide)) (alw_cons (SzS.le (by walk_at "szz") (by decide)) (alw_cons (SzS.le (by walk_at "szz") (by decide)) alw_nil))) fun B h => .chg (.need (.name (by simp [h.hu])))) 
    (alw_cons (goodRow (ws := [(Str.ofString "free"), u, a]) (e := .name) rfl (SzS.le (by walk_at "szz") (by decide)) (spl_join (ws := [(Str.ofString "free"), u, a]) (by simp) (alw_cons (by walk_at "nbz") (alw_cons (by walk_at "nbz") (alw_cons (by walk_at "nbz") alw_nil))) (by walk_at "rowz")) (Nat.le_of_ble_eq_true rfl) (alw_cons (SzS.le (by walk_at "szz") (by decide)) (alw_cons (SzS.le (by walk_at "szz") (by decide)) (alw_cons (SzS.le (by walk_at "szz") (by decide)) alw_nil))) fun B h => .chg (.free (by simp [h.hu, h.ha]))) 
    (alw_cons (goodRow (ws := [(Str.ofString "free"), a, m]) (e := .name) rfl (SzS.le (by walk_at "szz") (by decide)) (spl_join (ws := [(Str.ofString "free"), a, m]) (by simp) (alw_cons (by walk_at "nbz") (alw_cons (by walk_at "nbz") (alw_cons (by walk_at "nbz") alw_nil))) (by walk_at "rowz")) (Nat.le_of_ble_eq_true rfl) (alw_cons (SzS.le (by walk_at "szz") (by decide)) (alw_cons (SzS.le (by walk_at "szz") (by decide)) (alw_cons (SzS.le (by walk_at "szz") (by decide)) alw_nil))) fun B h => .chg (.free (by simp [h.ha, h.hm]))) 
    alw_nil))))
theorem gN2 {a u m : Str} (na : nameZ a = true) (nu : nameZ u = true) (lm : SzS 20 m) (bm : NoB m) : ∀ r ∈ rN2 a u m, GoodRow (CtxN a u m) (r, 2) := by
  have la := name_sz na; have lu := name_sz nu; have ba := name_noB na; have bu := name_noB nu
  exact (alw_cons (goodRow (ws := [(Str.ofString "drop"), u]) (e := .name) rfl (SzS.le (by walk_at "szz") (by decide)) (spl_join (ws := [(Str.ofString "drop"), u]) (by simp) (alw_cons (by walk_at "nbz") (alw_cons (by walk_at "nbz") alw_nil)) (by walk_at "rowz")) (Nat.le_of_ble_eq_true rfl) (alw_cons (SzS.le (by walk_at "szz") (by decide)) (alw_cons (SzS.le (by walk_at "szz") (by decide)) alw_nil)) fun B h => .chg (.drop h.hu)) 
    (alw_cons (goodRow (ws := [(Str.ofString "drop"), m]) (e := .name) rfl (SzS.le (by walk_at "szz") (by decide)) (spl_join (ws := [(Str.ofString "drop"), m]) (by simp) (alw_cons (by walk_at "nbz") (alw_cons (by walk_at "nbz") alw_nil)) (by walk_at "rowz")) (Nat.le_of_ble_eq_true rfl) (alw_cons (SzS.le (by walk_at "szz") (by decide)) (alw_cons (SzS.le (by walk_at "szz") (by decide)) alw_nil)) fun B h => .chg (.drop h.hm)) 
    (alw_cons (goodRow (ws := [(Str.ofString "show"), u]) (e := .name) rfl (SzS.le (by walk_at "szz") (by decide)) (spl_join (ws := [(Str.ofString "show"), u]) (by simp) (alw_cons (by walk_at "nbz") (alw_cons (by walk_at "nbz") alw_nil)) (by walk_at "rowz")) (Nat.le_of_ble_eq_true rfl) (alw_cons (SzS.le (by walk_at "szz") (by decide)) (alw_cons (SzS.le (by walk_at "szz") (by decide)) alw_nil)) fun B h => .shw h.hu) 
    (alw_cons (goodRow (ws := [(Str.ofString "show"), m]) (e := .name) rfl (SzS.le (by walk_at "szz") (by decide)) (spl_join (ws := [(Str.ofString "show"), m]) (by simp) (alw_cons (by walk_at "nbz") (alw_cons (by walk_at "nbz") alw_nil)) (by walk_at "rowz")) (Nat.le_of_ble_eq_true rfl) (alw_cons (SzS.le (by walk_at "szz") (by decide)) (alw_cons (SzS.le (by walk_at "szz") (by decide)) alw_nil)) fun B h => .shw h.hm) 
    (alw_cons (goodRow (ws := [(Str.ofString "need"), a, m]) (e := .name) rfl (SzS.le (by walk_at "szz") (by decide)) (spl_join (ws := [(Str.ofString "need"), a, m]) (by simp) (alw_cons (by walk_at "nbz") (alw_cons (by walk_at "nbz") (alw_cons (by walk_at "nbz") alw_nil))) (by walk_at "rowz")) (Nat.le_of_ble_eq_true rfl) (alw_cons (SzS.le (by walk_at "szz") (by decide)) (alw_cons (SzS.le (by walk_at "szz") (by decide)) (alw_cons (SzS.le (by walk_at "szz") (by decide)) alw_nil))) fun B h => .chg (.need (.name (by simp [h.ha, h.hm])))) 
    (alw_cons (goodRow (ws := [(Str.ofString "work"), m, (Str.ofString "1"), (Str.ofString "2"), (Str.ofString "x")]) (e := .name) rfl (SzS.le (by walk_at "szz") (by decide)) (spl_join (ws := [(Str.ofString "work"), m, (Str.ofString "1"), (Str.ofString "2"), (Str.ofString "x")]) (by simp) (alw_cons (by walk_at "nbz") (alw_cons (by walk_at "nbz") (alw_cons (by walk_at "nbz") (alw_cons (by walk_at "nbz") (alw_cons (by walk_at "nbz") alw_nil))))) (by walk_at "rowz")) (Nat.le_of_ble_eq_true rfl) (alw_cons (SzS.le (by walk_at "szz") (by decide)) (alw_cons (SzS.le (by walk_at "szz") (by decide)) (alw_cons (SzS.le (by walk_at "szz") (by decide)) (alw_cons (SzS.le (by walk_at "szz") (by decide)) (alw_cons (SzS.le (by walk_at "szz") (by decide)) alw_nil))))) fun B h => .chg (.work (.name h.nm))) 
    alw_nil))))))
theorem gT0 {a b c u : Str} (na : nameZ a = true) (nb : nameZ b = true) (nc : nameZ c = true) (nu : nameZ u = true) : ∀ r ∈ rT0 a b c u, GoodRow (CtxT a b c u) (r, 3) := by
  have la := name_sz na; have lu := name_sz nu; have ba := name_noB na; have bu := name_noB nu; have lb := name_sz nb; have lc := name_sz nc; have bb := name_noB nb; have bc := name_noB nc
  exact (alw_cons (goodRow (ws := [(Str.ofString "work"), a, (Str.ofString "x"), (Str.ofString "2"), (Str.ofString "1")]) (e := .text) rfl (SzS.le (by walk_at "szz") (by decide)) (spl_join (ws := [(Str.ofString "work"), a, (Str.ofString "x"), (Str.ofString "2"), (Str.ofString "1")]) (by simp) (alw_cons (by walk_at "nbz") (alw_cons (by walk_at "nbz") (alw_cons (by walk_at "nbz") (alw_cons (by walk_at "nbz") (alw_cons (by walk_at "nbz") alw_nil))))) (by walk_at "rowz")) (Nat.le_of_ble_eq_true rfl) (alw_cons (SzS.le (by walk_at "szz") (by decide)) (alw_cons (SzS.le (by walk_at "szz") (by decide)) (alw_cons (SzS.le (by walk_at "szz") (by decide)) (alw_cons (SzS.le (by walk_at "szz") (by decide)) (alw_cons (SzS.le (by walk_at "szz") (by decide)) alw_nil))))) fun B h => .chg (.work (.text h.na (by decide +kernel)))) 
    (alw_cons (goodRow (ws := [(Str.ofString "work"), a, (Str.ofString "3"), (Str.ofString "-2"), (Str.ofString "1")]) (e := .text) rfl (SzS.le (by walk_at "szz") (by decide)) (spl_join (ws := [(Str.ofString "work"), a, (Str.ofString "3"), (Str.ofString "-2"), (Str.ofString "1")]) (by simp) (alw_cons (by walk_at "nbz") (alw_cons (by walk_at "nbz") (alw_cons (by walk_at "nbz") (alw_cons (by walk_at "nbz") (alw_cons (by walk_at "nbz") alw_nil))))) (by walk_at "rowz")) (Nat.le_of_ble_eq_true rfl) (alw_cons (SzS.le (by walk_at "szz") (by decide)) (alw_cons (SzS.le (by walk_at "szz") (by decide)) (alw_cons (SzS.le (by walk_at "szz") (by decide)) (alw_cons (SzS.le (by walk_at "szz") (by decide)) (alw_cons (SzS.le (by walk_at "szz") (by decide)) alw_nil))))) fun B h => .chg (.work (.text h.na (by decide +kernel)))) 
    (alw_cons (goodRow (ws := [(Str.ofString "work"), a, (Str.ofString "3"), (Str.ofString "2"), (Str.ofString "01")]) (e := .text) rfl (SzS.le (by walk_at "szz") (by decide)) (spl_join (ws := [(Str.ofString "work"), a, (Str.ofString "3"), (Str.ofString "2"), (Str.ofString "01")]) (by simp) (alw_cons (by walk_at "nbz") (alw_cons (by walk_at "nbz") (alw_cons (by walk_at "nbz") (alw_cons (by walk_at "nbz") (alw_cons (by walk_at "nbz") alw_nil))))) (by walk_at "rowz")) (Nat.le_of_ble_eq_true rfl) (alw_cons (SzS.le (by walk_at "szz") (by decide)) (alw_cons (SzS.le (by walk_at "szz") (by decide)) (alw_cons (SzS.le (by walk_at "szz") (by decide)) (alw_cons (SzS.le (by walk_at "szz") (by decide)) (alw_cons (SzS.le (by walk_at "szz") (by decide)) alw_nil))))) fun B h => .chg (.work (.text h.na (by decide +kernel)))) 
    (alw_cons (goodRow (ws := [(Str.ofString "work"), u, (Str.ofString "3"), (Str.ofString ""), (Str.ofString "1")]) (e := .text) rfl (SzS.le (by walk_at "szz") (by decide)) (spl_join (ws := [(Str.ofString "work"), u, (Str.ofString "3"), (Str.ofString ""), (Str.ofString "1")]) (by simp) (alw_cons (by walk_at "nbz") (alw_cons (by walk_at "nbz") (alw_cons (by walk_at "nbz") (alw_cons (by walk_at "nbz") (alw_cons (by walk_at "nbz") alw_nil))))) (by walk_at "rowz")) (Nat.le_of_ble_eq_true rfl) (alw_cons (SzS.le (by walk_at "szz") (by decide)) (alw_cons (SzS.le (by walk_at "szz") (by decide)) (alw_cons (SzS.le (by walk_at "szz") (by decide)) (alw_cons (SzS.le (by walk_at "szz") (by decide)) (alw_cons (SzS.le (by walk_at "szz") (by decide)) alw_nil))))) fun B h => .chg (.work (.text h.nu (by decide +kernel)))) 
    alw_nil))))
theorem gT1 {a b c u : Str} (na : nameZ a = true) (nb : nameZ b = true) (nc : nameZ c = true) (nu : nameZ u = true) : ∀ r ∈ rT1 a b c u, GoodRow (CtxT a b c u) (r, 3) := by
  have la := name_sz na; have lu := name_sz nu; have ba := name_noB na; have bu := name_noB nu; have lb := name_sz nb; have lc := name_sz nc; have bb := name_noB nb; have bc := name_noB nc
  exact (alw_cons (goodRow (ws := [(Str.ofString "work"), u, (Str.ofString "1"), (Str.ofString "2"), (Str.ofString "x")]) (e := .text) rfl (SzS.le (by walk_at "szz") (by decide)) (spl_join (ws := [(Str.ofString "work"), u, (Str.ofString "1"), (Str.ofString "2"), (Str.ofString "x")]) (by simp) (alw_cons (by walk_at "nbz") (alw_cons (by walk_at "nbz") (alw_cons (by walk_at "nbz") (alw_cons (by walk_at "nbz") (alw_cons (by walk_at "nbz") alw_nil))))) (by walk_at "rowz")) (Nat.le_of_ble_eq_true rfl) (alw_cons (SzS.le (by walk_at "szz") (by decide)) (alw_cons (SzS.le (by walk_at "szz") (by decide)) (alw_cons (SzS.le (by walk_at "szz") (by decide)) (alw_cons (SzS.le (by walk_at "szz") (by decide)) (alw_cons (SzS.le (by walk_at "szz") (by decide)) alw_nil))))) fun B h => .chg (.work (.text h.nu (by decide +kernel)))) 
    (alw_cons (goodRow (ws := [(Str.ofString "work"), a, (Str.ofString "2"), (Str.ofString "3"), (Str.ofString "1")]) (e := .text) rfl (SzS.le (by walk_at "szz") (by decide)) (spl_join (ws := [(Str.ofString "work"), a, (Str.ofString "2"), (Str.ofString "3"), (Str.ofString "1")]) (by simp) (alw_cons (by walk_at "nbz") (alw_cons (by walk_at "nbz") (alw_cons (by walk_at "nbz") (alw_cons (by walk_at "nbz") (alw_cons (by walk_at "nbz") alw_nil))))) (by walk_at "rowz")) (Nat.le_of_ble_eq_true rfl) (alw_cons (SzS.le (by walk_at "szz") (by decide)) (alw_cons (SzS.le (by walk_at "szz") (by decide)) (alw_cons (SzS.le (by walk_at "szz") (by decide)) (alw_cons (SzS.le (by walk_at "szz") (by decide)) (alw_cons (SzS.le (by walk_at "szz") (by decide)) alw_nil))))) fun B h => .chg (.work (.less h.na (by decide +kernel) (by decide +kernel) (by decide +kernel) (by decide +kernel)))) 
    (alw_cons (goodRow (ws := [(Str.ofString "work"), u, (Str.ofString "2"), (Str.ofString "3"), (Str.ofString "1")]) (e := .text) rfl (SzS.le (by walk_at "szz") (by decide)) (spl_join (ws := [(Str.ofString "work"), u, (Str.ofString "2"), (Str.ofString "3"), (Str.ofString "1")]) (by simp) (alw_cons (by walk_at "nbz") (alw_cons (by walk_at "nbz") (alw_cons (by walk_at "nbz") (alw_cons (by walk_at "nbz") (alw_cons (by walk_at "nbz") alw_nil))))) (by walk_at "rowz")) (Nat.le_of_ble_eq_true rfl) (alw_cons (SzS.le (by walk_at "szz") (by decide)) (alw_cons (SzS.le (by walk_at "szz") (by decide)) (alw_cons (SzS.le (by walk_at "szz") (by decide)) (alw_cons (SzS.le (by walk_at "szz") (by decide)) (alw_cons (SzS.le (by walk_at "szz") (by decide)) alw_nil))))) fun B h => .chg (.work (.less h.nu (by decide +kernel) (by decide +kernel) (by decide +kernel) (by decide +kernel)))) 
    (alw_cons (goodRow (ws := [(Str.ofString "work"), u, (Str.ofString "0"), (Str.ofString "1"), (Str.ofString "0")]) (e := .text) rfl (SzS.le (by walk_at "szz") (by decide)) (spl_join (ws := [(Str.ofString "work"), u, (Str.ofString "0"), (Str.ofString "1"), (Str.ofString "0")]) (by simp) (alw_cons (by walk_at "nbz") (alw_cons (by walk_at "nbz") (alw_cons (by walk_at "nbz") (alw_cons (by walk_at "nbz") (alw_cons (by walk_at "nbz") alw_nil))))) (by walk_at "rowz")) (Nat.le_of_ble_eq_true rfl) (alw_cons (SzS.le (by walk_at "szz") (by decide)) (alw_cons (SzS.le (by walk_at "szz") (by decide)) (alw_cons (SzS.le (by walk_at "szz") (by decide)) (alw_cons (SzS.le (by walk_at "szz") (by decide)) (alw_cons (SzS.le (by walk_at "szz") (by decide)) alw_nil))))) fun B h => .chg (.work (.less h.nu (by decide +kernel) (by decide +kernel) (by decide +kernel) (by decide +kernel)))) 
    alw_nil))))
theorem gT2 {a b c u : Str} (na : nameZ a = true) (nb : nameZ b = true) (nc : nameZ c = true) (nu : nameZ u = true) : ∀ r ∈ rT2 a b c u, GoodRow (CtxT a b c u) (r, 3) := by
  have la := name_sz na; have lu := name_sz nu; have ba := name_noB na; have bu := name_noB nu; have lb := name_sz nb; have lc := name_sz nc; have bb := name_noB nb; have bc := name_noB nc
  exact (alw_cons (goodRow (ws := [(Str.ofString "price"), (Str.ofString "-1")]) (e := .text) rfl (SzS.le (by walk_at "szz") (by decide)) (by decide +kernel) (Nat.le_of_ble_eq_true rfl) (alw_cons (SzS.le (by walk_at "szz") (by decide)) (alw_cons (SzS.le (by walk_at "szz") (by decide)) alw_nil)) fun B h => .num (by decide +kernel) (by decide +kernel)) 
    (alw_cons (goodRow (ws := [(Str.ofString "plan"), (Str.ofString "00")]) (e := .text) rfl (SzS.le (by walk_at "szz") (by decide)) (by decide +kernel) (Nat.le_of_ble_eq_true rfl) (alw_cons (SzS.le (by walk_at "szz") (by decide)) (alw_cons (SzS.le (by walk_at "szz") (by decide)) alw_nil)) fun B h => .num (by decide +kernel) (by decide +kernel)) 
    (alw_cons (goodRow (ws := [(Str.ofString "why"), (Str.ofString "+1")]) (e := .text) rfl (SzS.le (by walk_at "szz") (by decide)) (by decide +kernel) (Nat.le_of_ble_eq_true rfl) (alw_cons (SzS.le (by walk_at "szz") (by decide)) (alw_cons (SzS.le (by walk_at "szz") (by decide)) alw_nil)) fun B h => .num (by decide +kernel) (by decide +kernel)) 
    (alw_cons (goodRow (ws := [(Str.ofString "budget"), (Str.ofString "-1")]) (e := .text) rfl (SzS.le (by walk_at "szz") (by decide)) (by decide +kernel) (Nat.le_of_ble_eq_true rfl) (alw_cons (SzS.le (by walk_at "szz") (by decide)) (alw_cons (SzS.le (by walk_at "szz") (by decide)) alw_nil)) fun B h => .num (by decide +kernel) (by decide +kernel)) 
    (alw_cons (goodRow (ws := [(Str.ofString "bonus"), (Str.ofString "x")]) (e := .text) rfl (SzS.le (by walk_at "szz") (by decide)) (by decide +kernel) (Nat.le_of_ble_eq_true rfl) (alw_cons (SzS.le (by walk_at "szz") (by decide)) (alw_cons (SzS.le (by walk_at "szz") (by decide)) alw_nil)) fun B h => .num (by decide +kernel) (by decide +kernel)) 
    (alw_cons (goodRow (ws := [(Str.ofString "budget"), (Str.ofString "")]) (e := .text) rfl (SzS.le (by walk_at "szz") (by decide)) (by decide +kernel) (Nat.le_of_ble_eq_true rfl) (alw_cons (SzS.le (by walk_at "szz") (by decide)) (alw_cons (SzS.le (by walk_at "szz") (by decide)) alw_nil)) fun B h => .num (by decide +kernel) (by decide +kernel)) 
    alw_nil))))))
theorem gT3 {a b c u : Str} (na : nameZ a = true) (nb : nameZ b = true) (nc : nameZ c = true) (nu : nameZ u = true) : ∀ r ∈ rT3 a b c u, GoodRow (CtxT a b c u) (r, 3) := by
  have la := name_sz na; have lu := name_sz nu; have ba := name_noB na; have bu := name_noB nu; have lb := name_sz nb; have lc := name_sz nc; have bb := name_noB nb; have bc := name_noB nc
  exact (alw_cons (goodRow (ws := [(Str.ofString "spare"), (Str.ofString "1_0")]) (e := .text) rfl (SzS.le (by walk_at "szz") (by decide)) (by decide +kernel) (Nat.le_of_ble_eq_true rfl) (alw_cons (SzS.le (by walk_at "szz") (by decide)) (alw_cons (SzS.le (by walk_at "szz") (by decide)) alw_nil)) fun B h => .num (by decide +kernel) (by decide +kernel)) 
    (alw_cons (goodRow (ws := [(Str.ofString "plan"), (Str.ofString "1.")]) (e := .text) rfl (SzS.le (by walk_at "szz") (by decide)) (by decide +kernel) (Nat.le_of_ble_eq_true rfl) (alw_cons (SzS.le (by walk_at "szz") (by decide)) (alw_cons (SzS.le (by walk_at "szz") (by decide)) alw_nil)) fun B h => .num (by decide +kernel) (by decide +kernel)) 
    (alw_cons (goodRow (ws := [(Str.ofString "price"), (Str.ofString "9999999999999999999999999999999")]) (e := .text) rfl (SzS.le (by walk_at "szz") (by decide)) (by decide +kernel) (Nat.le_of_ble_eq_true rfl) (alw_cons (SzS.le (by walk_at "szz") (by decide)) (alw_cons (SzS.le (by walk_at "szz") (by decide)) alw_nil)) fun B h => .num (by decide +kernel) (by decide +kernel)) 
    (alw_cons (goodRow (ws := [(Str.ofString "work"), u, (Str.ofString "9999999999999999999999999999999"), (Str.ofString "1"), (Str.ofString "1")]) (e := .text) rfl (SzS.le (by walk_at "szz") (by decide)) (spl_join (ws := [(Str.ofString "work"), u, (Str.ofString "9999999999999999999999999999999"), (Str.ofString "1"), (Str.ofString "1")]) (by simp) (alw_cons (by walk_at "nbz") (alw_cons (by walk_at "nbz") (alw_cons (by walk_at "nbz") (alw_cons (by walk_at "nbz") (alw_cons (by walk_at "nbz") alw_nil))))) (by walk_at "rowz")) (Nat.le_of_ble_eq_true rfl) (alw_cons (SzS.le (by walk_at "szz") (by decide)) (alw_cons (SzS.le (by walk_at "szz") (by decide)) (alw_cons (SzS.le (by walk_at "szz") (by decide)) (alw_cons (SzS.le (by walk_at "szz") (by decide)) (alw_cons (SzS.le (by walk_at "szz") (by decide)) alw_nil))))) fun B h => .chg (.work (.text h.nu (by decide +kernel)))) 
    (alw_cons (goodRow (ws := [(Str.ofString "why"), a]) (e := .text) rfl (SzS.le (by walk_at "szz") (by decide)) (spl_join (ws := [(Str.ofString "why"), a]) (by simp) (alw_cons (by walk_at "nbz") (alw_cons (by walk_at "nbz") alw_nil)) (by walk_at "rowz")) (Nat.le_of_ble_eq_true rfl) (alw_cons (SzS.le (by walk_at "szz") (by decide)) (alw_cons (SzS.le (by walk_at "szz") (by decide)) alw_nil)) fun B h => .num (by decide +kernel) (okN_name h.na)) 
    alw_nil)))))
theorem gT4 {a b c u : Str} (na : nameZ a = true) (nb : nameZ b = true) (nc : nameZ c = true) (nu : nameZ u = true) : ∀ p ∈ rT4 a b c u, GoodRow (CtxT a b c u) p := by
  have la := name_sz na; have lu := name_sz nu; have ba := name_noB na; have bu := name_noB nu; have lb := name_sz nb; have lc := name_sz nc; have bb := name_noB nb; have bc := name_noB nc
  exact (alw_cons (goodRow (ws := [(Str.ofString "work"), u, (Str.ofString "3"), (Str.ofString "2"), (Str.ofString "1")]) (e := .room) rfl (SzS.le (by walk_at "szz") (by decide)) (spl_join (ws := [(Str.ofString "work"), u, (Str.ofString "3"), (Str.ofString "2"), (Str.ofString "1")]) (by simp) (alw_cons (by walk_at "nbz") (alw_cons (by walk_at "nbz") (alw_cons (by walk_at "nbz") (alw_cons (by walk_at "nbz") (alw_cons (by walk_at "nbz") alw_nil))))) (by walk_at "rowz")) (Nat.le_of_ble_eq_true rfl) (alw_cons (SzS.le (by walk_at "szz") (by decide)) (alw_cons (SzS.le (by walk_at "szz") (by decide)) (alw_cons (SzS.le (by walk_at "szz") (by decide)) (alw_cons (SzS.le (by walk_at "szz") (by decide)) (alw_cons (SzS.le (by walk_at "szz") (by decide)) alw_nil))))) fun B h => .chg (.work (.room h.nu (by decide +kernel) (by decide +kernel) (by decide +kernel) (by decide +kernel) h.hu h.len))) 
    (alw_cons (goodRow (ws := [(Str.ofString "work"), u, (Str.ofString "0"), (Str.ofString "0"), (Str.ofString "0")]) (e := .room) rfl (SzS.le (by walk_at "szz") (by decide)) (spl_join (ws := [(Str.ofString "work"), u, (Str.ofString "0"), (Str.ofString "0"), (Str.ofString "0")]) (by simp) (alw_cons (by walk_at "nbz") (alw_cons (by walk_at "nbz") (alw_cons (by walk_at "nbz") (alw_cons (by walk_at "nbz") (alw_cons (by walk_at "nbz") alw_nil))))) (by walk_at "rowz")) (Nat.le_of_ble_eq_true rfl) (alw_cons (SzS.le (by walk_at "szz") (by decide)) (alw_cons (SzS.le (by walk_at "szz") (by decide)) (alw_cons (SzS.le (by walk_at "szz") (by decide)) (alw_cons (SzS.le (by walk_at "szz") (by decide)) (alw_cons (SzS.le (by walk_at "szz") (by decide)) alw_nil))))) fun B h => .chg (.work (.room h.nu (by decide +kernel) (by decide +kernel) (by decide +kernel) (by decide +kernel) h.hu h.len))) 
    alw_nil))
theorem gT5 {a b c u : Str} (na : nameZ a = true) (nb : nameZ b = true) (nc : nameZ c = true) (nu : nameZ u = true) : ∀ r ∈ rT5 a b c u, GoodRow (CtxT a b c u) (r, 5) := by
  have la := name_sz na; have lu := name_sz nu; have ba := name_noB na; have bu := name_noB nu; have lb := name_sz nb; have lc := name_sz nc; have bb := name_noB nb; have bc := name_noB nc
  exact (alw_cons (goodRow (ws := [(Str.ofString "need"), a, a]) (e := .order) rfl (SzS.le (by walk_at "szz") (by decide)) (spl_join (ws := [(Str.ofString "need"), a, a]) (by simp) (alw_cons (by walk_at "nbz") (alw_cons (by walk_at "nbz") (alw_cons (by walk_at "nbz") alw_nil))) (by walk_at "rowz")) (Nat.le_of_ble_eq_true rfl) (alw_cons (SzS.le (by walk_at "szz") (by decide)) (alw_cons (SzS.le (by walk_at "szz") (by decide)) (alw_cons (SzS.le (by walk_at "szz") (by decide)) alw_nil))) fun B h => .chg (.need (.order h.ha h.ha h.daa))) 
    (alw_cons (goodRow (ws := [(Str.ofString "need"), b, a]) (e := .order) rfl (SzS.le (by walk_at "szz") (by decide)) (spl_join (ws := [(Str.ofString "need"), b, a]) (by simp) (alw_cons (by walk_at "nbz") (alw_cons (by walk_at "nbz") (alw_cons (by walk_at "nbz") alw_nil))) (by walk_at "rowz")) (Nat.le_of_ble_eq_true rfl) (alw_cons (SzS.le (by walk_at "szz") (by decide)) (alw_cons (SzS.le (by walk_at "szz") (by decide)) (alw_cons (SzS.le (by walk_at "szz") (by decide)) alw_nil))) fun B h => .chg (.need (.order h.hb h.ha h.dba))) 
    (alw_cons (goodRow (ws := [(Str.ofString "need"), c, a]) (e := .order) rfl (SzS.le (by walk_at "szz") (by decide)) (spl_join (ws := [(Str.ofString "need"), c, a]) (by simp) (alw_cons (by walk_at "nbz") (alw_cons (by walk_at "nbz") (alw_cons (by walk_at "nbz") alw_nil))) (by walk_at "rowz")) (Nat.le_of_ble_eq_true rfl) (alw_cons (SzS.le (by walk_at "szz") (by decide)) (alw_cons (SzS.le (by walk_at "szz") (by decide)) (alw_cons (SzS.le (by walk_at "szz") (by decide)) alw_nil))) fun B h => .chg (.need (.order h.hc h.ha h.dca))) 
    (alw_cons (goodRow (ws := [(Str.ofString "need"), c, b]) (e := .order) rfl (SzS.le (by walk_at "szz") (by decide)) (spl_join (ws := [(Str.ofString "need"), c, b]) (by simp) (alw_cons (by walk_at "nbz") (alw_cons (by walk_at "nbz") (alw_cons (by walk_at "nbz") alw_nil))) (by walk_at "rowz")) (Nat.le_of_ble_eq_true rfl) (alw_cons (SzS.le (by walk_at "szz") (by decide)) (alw_cons (SzS.le (by walk_at "szz") (by decide)) (alw_cons (SzS.le (by walk_at "szz") (by decide)) alw_nil))) fun B h => .chg (.need (.order h.hc h.hb h.dcb))) 
    alw_nil))))
theorem gTx {a b c u : Str} (na : nameZ a = true) (nb : nameZ b = true) (nc : nameZ c = true) (nu : nameZ u = true) : GoodRow (CtxT a b c u) (rTx u) := by
  have la := name_sz na; have lu := name_sz nu; have ba := name_noB na; have bu := name_noB nu; have lb := name_sz nb; have lc := name_sz nc; have bb := name_noB nb; have bc := name_noB nc
  exact (goodRow (ws := [(Str.ofString "work"), u, (Str.ofString "999999999999999999999999999999"), (Str.ofString "1"), (Str.ofString "1")]) (e := .room) rfl (SzS.le (by walk_at "szz") (by decide)) (spl_join (ws := [(Str.ofString "work"), u, (Str.ofString "999999999999999999999999999999"), (Str.ofString "1"), (Str.ofString "1")]) (by simp) (alw_cons (by walk_at "nbz") (alw_cons (by walk_at "nbz") (alw_cons (by walk_at "nbz") (alw_cons (by walk_at "nbz") (alw_cons (by walk_at "nbz") alw_nil))))) (by walk_at "rowz")) (Nat.le_of_ble_eq_true rfl) (alw_cons (SzS.le (by walk_at "szz") (by decide)) (alw_cons (SzS.le (by walk_at "szz") (by decide)) (alw_cons (SzS.le (by walk_at "szz") (by decide)) (alw_cons (SzS.le (by walk_at "szz") (by decide)) (alw_cons (SzS.le (by walk_at "szz") (by decide)) alw_nil))))) fun B h => .chg (.work (.room h.nu (by decide +kernel) (by decide +kernel) (by decide +kernel) (by decide +kernel) h.hu h.len)))
end DL

end
section
set_option maxRecDepth 100000
set_option maxHeartbeats 1000000
/-! the book of k63, from its first row to its last -/
namespace DL
open PySem PySem.Spec PyProof.Rows L2
structure Nm (nm : Nat → Str) : Prop where
  ok : ∀ k, nameZ (nm k) = true
  inj : ∀ j k, j < 9 → k < 9 → nm j = nm k → j = k
structure Wks (wk : Nat → Int × Int × Int) : Prop where
  b : ∀ k, 0 ≤ (wk k).2.1 ∧ (wk k).2.1 ≤ (wk k).1 ∧ 0 ≤ (wk k).2.2 ∧ (wk k).1 < 100 ∧ (wk k).2.2 < 100
def bkS (nm : Nat → Str) (wk : Nat → Int × Int × Int) (i : Nat) (ps : List (Str × Str)) : Bk := ⟨(List.range i).map nm, (List.range i).map fun k => (nm k, wk k), ps⟩
section
variable {nm : Nat → Str} {wk : Nat → Int × Int × Int} {i k : Nat} {ps : List (Str × Str)}
theorem Nm.nodup (h : Nm nm) (hi : i ≤ 9) : ((List.range i).map nm).Nodup := by
  unfold List.Nodup
  rw [List.pairwise_map]
  refine List.Pairwise.imp_of_mem (fun {a b} ha hb hab e => ?_) (List.nodup_range (n := i))
  have ha := List.mem_range.mp ha
  have hb := List.mem_range.mp hb
  exact hab (h.inj a b (by omega) (by omega) e)
theorem okS (h : Nm nm) (hi : i ≤ 8) (hp : ∀ p ∈ ps, p.1 ∈ (List.range i).map nm ∧ p.2 ∈ (List.range i).map nm) (hl : ps.length ≤ 100) : BkOk (bkS nm wk i ps) :=
  ⟨by unfold bkS; rw [List.map_map]; rfl, h.nodup (by omega), by show ((List.range i).map nm).length ≤ 8; rw [List.length_map, List.length_range]; exact hi, fun n hn => by
    obtain ⟨k, _, rfl⟩ := List.mem_map.mp hn
    exact h.ok k, hp, hl⟩
theorem memS (hk : k < i) : nm k ∈ (List.range i).map nm := List.mem_map.mpr ⟨k, List.mem_range.mpr hk, rfl⟩
theorem notS (h : Nm nm) (hk : k < 9) (hi : i ≤ k) : nm k ∉ (List.range i).map nm := fun q => by
  obtain ⟨j, hj, e⟩ := List.mem_map.mp q
  have hj := List.mem_range.mp hj
  have := h.inj j k (by omega) hk e
  omega
theorem atS (hk : k < i) : ((List.range i).map nm)[k]? = some (nm k) := by rw [List.getElem?_map, List.getElem?_range hk]; rfl
theorem stepS (h : Nm nm) (hi : i < 8) : pwDo (bkS nm wk i []) (nm i) (wk i) = bkS nm wk (i + 1) [] := by
  have hn : hasB (bkS nm wk i []) (nm i) = false := has_no (okS h (by omega) (fun _ z => by cases z) (by decide)) (notS h (by omega) (Nat.le_refl _))
  unfold pwDo
  rw [hn, if_neg (by decide), sput_new (show (sval (bkS nm wk i []).works (nm i)).isSome = false from hn)]
  unfold bkS
  rw [List.range_succ, List.map_append, List.map_append]
  rfl
theorem lit_work : (Str.ofString "work ").cps.toList = [119, 111, 114, 107, 32] := by decide +kernel
theorem lit_work0 : (Str.ofString "work").cps.toList = [119, 111, 114, 107] := by decide +kernel
theorem lit_need : (Str.ofString "need ").cps.toList = [110, 101, 101, 100, 32] := by decide +kernel
theorem lit_need0 : (Str.ofString "need").cps.toList = [110, 101, 101, 100] := by decide +kernel
theorem lit_drop : (Str.ofString "drop ").cps.toList = [100, 114, 111, 112, 32] := by decide +kernel
theorem lit_drop0 : (Str.ofString "drop").cps.toList = [100, 114, 111, 112] := by decide +kernel
theorem lit_show : (Str.ofString "show ").cps.toList = [115, 104, 111, 119, 32] := by decide +kernel
theorem lit_show0 : (Str.ofString "show").cps.toList = [115, 104, 111, 119] := by decide +kernel
theorem lit_b : (Str.ofString " ").cps.toList = [32] := by decide +kernel
theorem lit_321 : (Str.ofString " 3 2 1").cps.toList = [32, 51, 32, 50, 32, 49] := by decide +kernel
theorem lit_723 : (Str.ofString " 7 2 3").cps.toList = [32, 55, 32, 50, 32, 51] := by decide +kernel
theorem lit_1 : (Str.ofString "1").cps.toList = [49] := by decide +kernel
theorem lit_2 : (Str.ofString "2").cps.toList = [50] := by decide +kernel
theorem lit_3 : (Str.ofString "3").cps.toList = [51] := by decide +kernel
theorem lit_7 : (Str.ofString "7").cps.toList = [55] := by decide +kernel
local macro_rules
  | `(tactic| walk_at "rowy") => `(tactic| (apply TL.ext_tl; simp only [shownZ, TL.join_eq, TL.tl_join, TL.tl_append, TL.tl, List.map_cons, List.map_nil, TL.joinL, lit_work, lit_work0, lit_need, lit_need0, lit_drop, lit_drop0, lit_show, lit_show0, lit_b, lit_321, lit_723, lit_1, lit_2, lit_3, lit_7, List.cons_append, List.nil_append, List.append_assoc]))
theorem num_noB {x : Int} (h : 0 ≤ x) : NoB (numZ x) := ⟨fun q => by have := numZ_cps h 32 q; omega⟩
theorem lit_noB {s : Str} (h : 32 ∉ s.cps.toList) : NoB s := ⟨h⟩
theorem spl_work {n : Str} {u l p : Int} (hn : nameZ n = true) (h1 : 0 ≤ u) (h2 : 0 ≤ l) (h3 : 0 ≤ p) : Txt.split ((("work " ++ n) ++ " ") ++ shownZ [u, l, p]) " " = (["work", n, numZ u, numZ l, numZ p] : List Str) :=
  spl_join (by simp) (alw_cons ⟨by decide +kernel⟩ (alw_cons (name_noB hn) (alw_cons (num_noB h1) (alw_cons (num_noB h2) (alw_cons (num_noB h3) alw_nil))))) (by walk_at "rowy")
theorem spl_need {a b : Str} (ha : nameZ a = true) (hb : nameZ b = true) : Txt.split ((("need " ++ a) ++ " ") ++ b) " " = (["need", a, b] : List Str) :=
  spl_join (by simp) (alw_cons ⟨by decide +kernel⟩ (alw_cons (name_noB ha) (alw_cons (name_noB hb) alw_nil))) (by walk_at "rowy")
theorem spl_drop {a : Str} (ha : nameZ a = true) : Txt.split ("drop " ++ a) " " = (["drop", a] : List Str) := spl_join (by simp) (alw_cons ⟨by decide +kernel⟩ (alw_cons (name_noB ha) alw_nil)) (by walk_at "rowy")
theorem spl_show {a : Str} (ha : nameZ a = true) : Txt.split ("show " ++ a) " " = (["show", a] : List Str) := spl_join (by simp) (alw_cons ⟨by decide +kernel⟩ (alw_cons (name_noB ha) alw_nil)) (by walk_at "rowy")
theorem spl_321 {a : Str} (ha : nameZ a = true) : Txt.split (("work " ++ a) ++ " 3 2 1") " " = (["work", a, "3", "2", "1"] : List Str) := spl_join (by simp) (alw_cons ⟨by decide +kernel⟩ (alw_cons (name_noB ha) (alw_cons ⟨by decide +kernel⟩ (alw_cons ⟨by decide +kernel⟩ (alw_cons ⟨by decide +kernel⟩ alw_nil))))) (by walk_at "rowy")
theorem spl_723 {a : Str} (ha : nameZ a = true) : Txt.split (("work " ++ a) ++ " 7 2 3") " " = (["work", a, "7", "2", "3"] : List Str) := spl_join (by simp) (alw_cons ⟨by decide +kernel⟩ (alw_cons (name_noB ha) (alw_cons ⟨by decide +kernel⟩ (alw_cons ⟨by decide +kernel⟩ (alw_cons ⟨by decide +kernel⟩ alw_nil))))) (by walk_at "rowy")
theorem num_len2 {x : Int} (h0 : 0 ≤ x) (h : x < 100) : (numZ x).length ≤ 2 := (len_num (k := 2) h0 (by decide) h).2
theorem Wks.num (h : Wks wk) (k : Nat) : (0 ≤ (wk k).1 ∧ (wk k).1 < 100) ∧ (0 ≤ (wk k).2.1 ∧ (wk k).2.1 < 100) ∧ (0 ≤ (wk k).2.2 ∧ (wk k).2.2 < 100) := by
  have := h.b k
  omega
theorem shown_len {u l p : Int} (h1 : 0 ≤ u ∧ u < 100) (h2 : 0 ≤ l ∧ l < 100) (h3 : 0 ≤ p ∧ p < 100) : (shownZ [u, l, p]).length ≤ 9 := by
  have e1 : ((" " : Str)).length = 1 := by decide +kernel
  have := join_len (sep := " ") (m := 2) (ys := [u, l, p].map numZ) fun y hy => by
    simp only [List.map_cons, List.map_nil, List.mem_cons, List.not_mem_nil, or_false] at hy
    rcases hy with rfl | rfl | rfl
    · exact num_len2 h1.1 h1.2
    · exact num_len2 h2.1 h2.2
    · exact num_len2 h3.1 h3.2
  rw [e1] at this
  exact this
theorem lt30 {x : Int} (h : x < 100) : x < 10 ^ 30 := Int.lt_trans h (by decide)
/-- a work put in -/
theorem chg_work (h : Nm nm) (hw : Wks wk) (hi : i < 8) : Chg (bkS nm wk i []) ["work", nm i, numZ (wk i).1, numZ (wk i).2.1, numZ (wk i).2.2] (bkS nm wk (i + 1) []) := by
  obtain ⟨h1, h2, h3⟩ := hw.num i
  have b := hw.b i
  have n1 := numZ_ok h1.1 (lt30 h1.2)
  have n2 := numZ_ok h2.1 (lt30 h2.2)
  have n3 := numZ_ok h3.1 (lt30 h3.2)
  have c := Chg.work (B := bkS nm wk i []) (n := nm i) (h.ok i) n1.1 n2.1 n3.1 (by rw [n1.2, n2.2]; exact b.2.1) (.inr (by show ((List.range i).map nm).length < 8; rw [List.length_map, List.length_range]; exact hi))
  rw [n1.2, n2.2, n3.2] at c
  rw [← stepS h hi]
  exact c
theorem small_work {n a b c : Str} (hn : n.length ≤ 100) (h1 : a.length ≤ 100) (h2 : b.length ≤ 100) (h3 : c.length ≤ 100) : Small ["work", n, a, b, c] := ⟨Nat.le_of_ble_eq_true rfl, alw_cons (by decide +kernel) (alw_cons hn (alw_cons h1 (alw_cons h2 (alw_cons h3 alw_nil))))⟩
theorem name100 {n : Str} (h : nameZ n = true) : n.length ≤ 100 := Nat.le_trans (name_of h).2.1 (by decide)
def ps1 (nm : Nat → Str) : List (Str × Str) := [(nm 0, nm 1)]
def ps2 (nm : Nat → Str) : List (Str × Str) := [(nm 0, nm 1), (nm 1, nm 2)]
theorem nix (h : Nm nm) (hk : k < 8) : nIx ((List.range 8).map nm) (nm k) = (k : Int) := nIx_uniq (h.nodup (by decide)) (atS hk)
theorem ok0 (h : Nm nm) : BkOk (bkS nm wk 8 []) := okS h (Nat.le_refl _) (fun _ z => by cases z) (by decide)
theorem ok1 (h : Nm nm) : BkOk (bkS nm wk 8 (ps1 nm)) := okS h (Nat.le_refl _) (alw_cons ⟨memS (by decide), memS (by decide)⟩ alw_nil) (Nat.le_of_ble_eq_true rfl)
theorem ok2 (h : Nm nm) : BkOk (bkS nm wk 8 (ps2 nm)) := okS h (Nat.le_refl _) (alw_cons ⟨memS (by decide), memS (by decide)⟩ (alw_cons ⟨memS (by decide), memS (by decide)⟩ alw_nil)) (Nat.le_of_ble_eq_true rfl)
theorem hasS (ok : BkOk (bkS nm wk 8 ps)) (hk : k < 8) : hasB (bkS nm wk 8 ps) (nm k) = true := (has_mem ok).mpr (memS hk)
theorem len8 : (bkS nm wk 8 ps).names.length = 8 := by show ((List.range 8).map nm).length = 8; rw [List.length_map, List.length_range]
theorem needS (h : Nm nm) {j : Nat} (hj : j < 8) (hk : k < 8) : NeedIn (bkS nm wk 8 ps) (nm j) (nm k) = ps.map (pI ((List.range 8).map nm)) ++ [((j : Int), (k : Int))] := by
  unfold NeedIn pIx
  show ps.map (pI ((List.range 8).map nm)) ++ [(nIx ((List.range 8).map nm) (nm j), nIx ((List.range 8).map nm) (nm k))] = _
  rw [nix h hj, nix h hk]
theorem pI1 (h : Nm nm) : (ps1 nm).map (pI ((List.range 8).map nm)) = [(0, 1)] := by
  show [(nIx _ (nm 0), nIx _ (nm 1))] = _
  rw [nix h (by decide), nix h (by decide)]
  rfl
theorem pI2 (h : Nm nm) : (ps2 nm).map (pI ((List.range 8).map nm)) = [(0, 1), (1, 2)] := by
  show [(nIx _ (nm 0), nIx _ (nm 1)), (nIx _ (nm 1), nIx _ (nm 2))] = _
  rw [nix h (by decide), nix h (by decide), nix h (by decide)]
  rfl
theorem dag_of {prs : List (Int × Int)} (h : ∀ p ∈ prs, 0 ≤ p.1 ∧ p.1 < p.2 ∧ p.2 < 8) : MQ.Dag 8 prs := ⟨Int.toNat, fun p hp => by have := h p hp; omega⟩
theorem chg_need1 (h : Nm nm) : Chg (bkS nm wk 8 []) ["need", nm 0, nm 1] (bkS nm wk 8 (ps1 nm)) := by
  have c := Chg.need (B := bkS nm wk 8 []) (a := nm 0) (b := nm 1) (hasS (ok0 h) (by decide)) (hasS (ok0 h) (by decide)) (by rw [len8, needS h (by decide) (by decide)]; exact dag_of (prs := [(0, 1)]) (by decide)) (Nat.le_of_ble_eq_true rfl)
  exact c
theorem chg_need2 (h : Nm nm) : Chg (bkS nm wk 8 (ps1 nm)) ["need", nm 1, nm 2] (bkS nm wk 8 (ps2 nm)) := by
  have c := Chg.need (B := bkS nm wk 8 (ps1 nm)) (a := nm 1) (b := nm 2) (hasS (ok1 h) (by decide)) (hasS (ok1 h) (by decide)) (by rw [len8, needS h (by decide) (by decide), pI1 h]; exact dag_of (prs := [(0, 1), (1, 2)]) (by decide)) (Nat.le_of_ble_eq_true rfl)
  unfold pnDo at c
  have ne : (nm 1, nm 2) ∉ (bkS nm wk 8 (ps1 nm)).pairs := fun q => by
    have q : (nm 1, nm 2) ∈ [(nm 0, nm 1)] := q
    rw [List.mem_singleton] at q
    injection q with q1 q2
    have := h.inj 1 0 (by decide) (by decide) q1
    omega
  rw [if_neg ne] at c
  exact c
/-- what the rows to be refused stand on -/
theorem ctxT (h : Nm nm) : CtxT (nm 0) (nm 1) (nm 2) (nm 8) (bkS nm wk 8 (ps2 nm)) := by
  have ok := ok2 (wk := wk) h
  have no : ∀ {j k : Nat}, j < 8 → k < 8 → (∀ rk : Int → Nat, rk 0 < rk 1 → rk 1 < rk 2 → ¬ rk (j : Int) < rk (k : Int)) → ¬ MQ.Dag (bkS nm wk 8 (ps2 nm)).names.length (NeedIn (bkS nm wk 8 (ps2 nm)) (nm j) (nm k)) := fun {j k} hj hk g => by
    rw [len8, needS h hj hk, pI2 h]
    rintro ⟨rk, hr⟩
    exact g rk (hr (0, 1) (by simp)).2.2.2.2 (hr (1, 2) (by simp)).2.2.2.2 (hr ((j : Int), (k : Int)) (by simp)).2.2.2.2
  refine ⟨hasS ok (by decide), hasS ok (by decide), hasS ok (by decide), has_no ok (notS h (by decide) (by decide)), len8, h.ok 0, h.ok 8, no (by decide) (by decide) ?_, no (by decide) (by decide) ?_, no (by decide) (by decide) ?_, no (by decide) (by decide) ?_⟩
  · exact fun rk h1 h2 => by show ¬ rk 0 < rk 0; omega
  · exact fun rk h1 h2 => by show ¬ rk 1 < rk 0; omega
  · exact fun rk h1 h2 => by show ¬ rk 2 < rk 0; omega
  · exact fun rk h1 h2 => by show ¬ rk 2 < rk 1; omega
/-- the texts that show tells -/
def txS (nm : Nat → Str) (wk : Nat → Int × Int × Int) (k : Nat) : Str := shownZ [(wk k).1, (wk k).2.1, (wk k).2.2]
def tyS (nm : Nat → Str) (wk : Nat → Int × Int × Int) (k : Nat) : Str := if k = 1 then (txS nm wk k ++ " ") ++ nm 0 else if k = 2 then (txS nm wk k ++ " ") ++ nm 1 else txS nm wk k
theorem filter_one {xs : List Str} {x : Str} (nd : xs.Nodup) (hx : x ∈ xs) {p : Str → Bool} (hp : ∀ y ∈ xs, p y = true ↔ y = x) : xs.filter p = [x] := by
  induction xs with
  | nil => cases hx
  | cons y r ih =>
    rw [List.nodup_cons] at nd
    by_cases e : y = x
    · subst e
      rw [List.filter_cons_of_pos ((hp y List.mem_cons_self).mpr rfl)]
      congr 1
      refine List.filter_eq_nil_iff.mpr fun z hz q => ?_
      have := (hp z (List.mem_cons_of_mem _ hz)).mp q
      subst this
      exact nd.1 hz
    · have hx : x ∈ r := (List.mem_cons.mp hx).resolve_left fun q => e q.symm
      rw [List.filter_cons_of_neg fun q => e ((hp y List.mem_cons_self).mp q)]
      exact ih nd.2 hx fun z hz => hp z (List.mem_cons_of_mem _ hz)
theorem valS (h : Nm nm) (hi : i ≤ 9) (hk : k < i) : sval (bkS nm wk i ps).works (nm k) = some (wk k) := by
  have := sval_self (ws := (bkS nm wk i ps).works) (by
    show (((List.range i).map fun k => (nm k, wk k)).map (·.1)).Nodup
    rw [List.map_map]
    exact h.nodup hi) (q := (nm k, wk k)) (List.mem_map.mpr ⟨k, List.mem_range.mpr hk, rfl⟩)
  exact this
theorem join_one (x : Str) : Txt.join " " [x] = x := by rw [TL.join_eq]; rfl
theorem join_two (x y : Str) : Txt.join " " [x, y] = (x ++ " ") ++ y := by rw [TL.join_eq]; rfl
theorem showS (h : Nm nm) (hk : k < 8) : showB (bkS nm wk 8 (ps2 nm)) (nm k) = tyS nm wk k := by
  unfold showB
  rw [valS h (by decide) hk]
  show Txt.join " " ([txS nm wk k] ++ ((List.range 8).map nm).filter fun n => decide ((n, nm k) ∈ ps2 nm)) = _
  have mem : ∀ n : Str, ((n, nm k) ∈ ps2 nm) ↔ ((n = nm 0 ∧ k = 1) ∨ (n = nm 1 ∧ k = 2)) := fun n => by
    unfold ps2
    simp only [List.mem_cons, List.not_mem_nil, or_false, Prod.mk.injEq]
    constructor
    · rintro (⟨e1, e2⟩ | ⟨e1, e2⟩)
      · exact .inl ⟨e1, h.inj k 1 (by omega) (by decide) e2⟩
      · exact .inr ⟨e1, h.inj k 2 (by omega) (by decide) e2⟩
    · rintro (⟨e1, e2⟩ | ⟨e1, e2⟩)
      · exact .inl ⟨e1, by rw [e2]⟩
      · exact .inr ⟨e1, by rw [e2]⟩
  unfold tyS
  by_cases e1 : k = 1
  · have f : (((List.range 8).map nm).filter fun n => decide ((n, nm k) ∈ ps2 nm)) = [nm 0] := filter_one (h.nodup (by decide)) (memS (by decide)) fun y _ => by
      rw [decide_eq_true_eq, mem y]
      constructor
      · rintro (⟨e, _⟩ | ⟨_, e⟩)
        · exact e
        · omega
      · exact fun e => .inl ⟨e, e1⟩
    rw [if_pos e1, f]
    exact join_two _ _
  · rw [if_neg e1]
    by_cases e2 : k = 2
    · have f : (((List.range 8).map nm).filter fun n => decide ((n, nm k) ∈ ps2 nm)) = [nm 1] := filter_one (h.nodup (by decide)) (memS (by decide)) fun y _ => by
        rw [decide_eq_true_eq, mem y]
        constructor
        · rintro (⟨_, e⟩ | ⟨e, _⟩)
          · omega
          · exact e
        · exact fun e => .inr ⟨e, e2⟩
      rw [if_pos e2, f]
      exact join_two _ _
    · rw [if_neg e2, List.filter_eq_nil_iff.mpr fun y _ q => by
        rcases (mem y).mp (of_decide_eq_true q) with ⟨_, e⟩ | ⟨_, e⟩
        · exact e1 e
        · exact e2 e]
      exact join_one _
/-! the last rows -/
theorem chg_drop (h : Nm nm) (hk : k < 8) : Chg (bkS nm wk 8 (ps2 nm)) ["drop", nm k] (drDo (bkS nm wk 8 (ps2 nm)) (nm k)) := .drop (hasS (ok2 h) hk)
def bk3 (nm : Nat → Str) (wk : Nat → Int × Int × Int) (k : Nat) : Bk := drDo (bkS nm wk 8 (ps2 nm)) (nm k)
def bk4 (nm : Nat → Str) (wk : Nat → Int × Int × Int) (k : Nat) : Bk := pwDo (bk3 nm wk k) (nm 8) (3, 2, 1)
def bk5 (nm : Nat → Str) (wk : Nat → Int × Int × Int) (k : Nat) : Bk := pwDo (bk4 nm wk k) (nm 8) (7, 2, 3)
theorem names3 (h : Nm nm) (hk : k < 8) : (bk3 nm wk k).names = ((List.range 8).filter fun j => !decide (j = k)).map nm := by
  show ((List.range 8).map nm).filter (fun n => !decide (n = nm k)) = _
  rw [List.filter_map]
  congr 1
  refine List.filter_congr fun j hj => ?_
  have hj := List.mem_range.mp hj
  show (!decide (nm j = nm k)) = !decide (j = k)
  by_cases e : j = k
  · rw [e]; simp
  · rw [decide_eq_false e, decide_eq_false fun q => e (h.inj j k (by omega) (by omega) q)]
theorem ok3 (h : Nm nm) : BkOk (bk3 nm wk k) := (ok2 h).drop
theorem no3 (h : Nm nm) (hk : k < 8) : hasB (bk3 nm wk k) (nm 8) = false := has_no (ok3 h) fun q => by
  rw [names3 h hk] at q
  obtain ⟨j, hj, e⟩ := List.mem_map.mp q
  have hj := List.mem_range.mp (List.mem_filter.mp hj).1
  have := h.inj j 8 (by omega) (by decide) e
  omega
theorem filter_len (hk : k < 8) : ((List.range 8).filter fun j => !decide (j = k)).length < 8 := by
  match k, hk with
  | 0, _ => decide
  | 1, _ => decide
  | 2, _ => decide
  | 3, _ => decide
  | 4, _ => decide
  | 5, _ => decide
  | 6, _ => decide
  | 7, _ => decide
theorem len3 (h : Nm nm) (hk : k < 8) : (bk3 nm wk k).names.length < 8 := by rw [names3 h hk, List.length_map]; exact filter_len hk
theorem chg_321 (h : Nm nm) (hk : k < 8) : Chg (bk3 nm wk k) ["work", nm 8, "3", "2", "1"] (bk4 nm wk k) := by
  have c := Chg.work (B := bk3 nm wk k) (n := nm 8) (u := "3") (l := "2") (p := "1") (h.ok 8) (by decide +kernel) (by decide +kernel) (by decide +kernel) (by decide +kernel) (.inr (len3 h hk))
  have e : (valZ "3", valZ "2", valZ "1") = ((3, 2, 1) : Int × Int × Int) := by decide +kernel
  rw [e] at c
  exact c
theorem ok4 (h : Nm nm) (hk : k < 8) : BkOk (bk4 nm wk k) := (ok3 h).work (h.ok 8) (.inr (len3 h hk))
theorem val_put {B : Bk} {n : Str} {w : Int × Int × Int} : sval (pwDo B n w).works n = some w := by
  unfold pwDo
  rw [sval_put, if_pos rfl]
theorem has4 (h : Nm nm) : hasB (bk4 nm wk k) (nm 8) = true := by
  unfold hasB bk4
  rw [val_put]
  rfl
theorem chg_723 (h : Nm nm) : Chg (bk4 nm wk k) ["work", nm 8, "7", "2", "3"] (bk5 nm wk k) := by
  have c := Chg.work (B := bk4 nm wk k) (n := nm 8) (u := "7") (l := "2") (p := "3") (h.ok 8) (by decide +kernel) (by decide +kernel) (by decide +kernel) (by decide +kernel) (.inl (has4 h))
  have e : (valZ "7", valZ "2", valZ "3") = ((7, 2, 3) : Int × Int × Int) := by decide +kernel
  rw [e] at c
  exact c
theorem ok5 (h : Nm nm) (hk : k < 8) : BkOk (bk5 nm wk k) := (ok4 h hk).work (h.ok 8) (.inl (has4 h))
theorem names4 (h : Nm nm) (hk : k < 8) : (bk4 nm wk k).names = ((List.range 8).filter fun j => !decide (j = k)).map nm ++ [nm 8] := by
  unfold bk4 pwDo
  rw [no3 h hk, if_neg (by decide), names3 h hk]
theorem no_pairs (h : Nm nm) {n : Str} : (n, nm 8) ∉ (bk3 nm wk k).pairs := fun q => by
  have q := (List.mem_filter.mp q).1
  have q : (n, nm 8) ∈ [(nm 0, nm 1), (nm 1, nm 2)] := q
  simp only [List.mem_cons, List.not_mem_nil, or_false, Prod.mk.injEq] at q
  rcases q with ⟨_, q⟩ | ⟨_, q⟩
  · have := h.inj 8 1 (by decide) (by decide) q
    omega
  · have := h.inj 8 2 (by decide) (by decide) q
    omega
theorem show4 (h : Nm nm) : showB (bk4 nm wk k) (nm 8) = "3 2 1" := by
  unfold showB bk4
  rw [val_put]
  show Txt.join " " ([shownZ [3, 2, 1]] ++ (bk4 nm wk k).names.filter fun n => decide ((n, nm 8) ∈ (bk3 nm wk k).pairs)) = _
  rw [List.filter_eq_nil_iff.mpr fun y _ q => no_pairs h (of_decide_eq_true q)]
  decide +kernel
theorem show5 (h : Nm nm) : showB (bk5 nm wk k) (nm 8) = "7 2 3" := by
  unfold showB bk5
  rw [val_put]
  show Txt.join " " ([shownZ [7, 2, 3]] ++ (bk5 nm wk k).names.filter fun n => decide ((n, nm 8) ∈ (bk3 nm wk k).pairs)) = _
  rw [List.filter_eq_nil_iff.mpr fun y _ q => no_pairs h (of_decide_eq_true q)]
  decide +kernel
theorem sput_mem {α : Type} {ws : List (Str × α)} {n : Str} {w : α} {q : Str × α} (h : q ∈ sput ws n w) : q.2 = w ∨ q ∈ ws := by
  unfold sput at h
  split at h
  · obtain ⟨p, hp, e⟩ := List.mem_map.mp h
    split at e
    · rw [← e]; exact .inl rfl
    · rw [← e]; exact .inr hp
  · rcases List.mem_append.mp h with h | h
    · exact .inr h
    · rw [List.mem_singleton] at h
      rw [h]; exact .inl rfl
def NumT (w : Int × Int × Int) : Prop := (0 ≤ w.1 ∧ Sz 400 w.1) ∧ (0 ≤ w.2.1 ∧ Sz 400 w.2.1) ∧ (0 ≤ w.2.2 ∧ Sz 400 w.2.2)
def NumB (B : Bk) : Prop := ∀ q ∈ B.works, NumT q.2
theorem NumB.put {B : Bk} (h : NumB B) {n : Str} {w : Int × Int × Int} (hw : NumT w) : NumB (pwDo B n w) := fun q hq => by
  rcases sput_mem hq with e | e
  · rw [e]; exact hw
  · exact h q e
theorem NumB.drop {B : Bk} (h : NumB B) {n : Str} : NumB (drDo B n) := fun q hq => h q (List.mem_filter.mp hq).1
theorem sz100 {x : Int} (h0 : 0 ≤ x) (h : x < 100) : Sz 400 x := by
  have e : (2 : Nat) ^ 7 = 128 := by decide
  have q : Sz 7 x := ⟨by omega⟩
  exact q.mono (by decide)
theorem numS (hw : Wks wk) : NumB (bkS nm wk i ps) := fun q hq => by
  obtain ⟨k, _, rfl⟩ := List.mem_map.mp hq
  obtain ⟨h1, h2, h3⟩ := hw.num k
  exact ⟨⟨h1.1, sz100 h1.1 h1.2⟩, ⟨h2.1, sz100 h2.1 h2.2⟩, ⟨h3.1, sz100 h3.1 h3.2⟩⟩
theorem num4 (hw : Wks wk) : NumB (bk4 nm wk k) := ((numS hw).drop).put ⟨⟨by decide, sz100 (by decide) (by decide)⟩, ⟨by decide, sz100 (by decide) (by decide)⟩, ⟨by decide, sz100 (by decide) (by decide)⟩⟩
theorem num5 (hw : Wks wk) : NumB (bk5 nm wk k) := (num4 hw).put ⟨⟨by decide, sz100 (by decide) (by decide)⟩, ⟨by decide, sz100 (by decide) (by decide)⟩, ⟨by decide, sz100 (by decide) (by decide)⟩⟩
theorem set_ty : ((((List.range 8).map (txS nm wk)).map PyData.str).set 1 (.str ((txS nm wk 1 ++ " ") ++ nm 0))).set 2 (.str ((txS nm wk 2 ++ " ") ++ nm 1)) = ((List.range 8).map (tyS nm wk)).map PyData.str := rfl
theorem has5 (h : Nm nm) : hasB (bk5 nm wk k) (nm 8) = true := by
  unfold hasB bk5
  rw [val_put]
  rfl
theorem tx_len (hw : Wks wk) (k : Nat) : (txS nm wk k).length ≤ 9 := by
  obtain ⟨h1, h2, h3⟩ := hw.num k
  exact shown_len h1 h2 h3
theorem tyOk (h : Nm nm) (hw : Wks wk) (hk : k < 8) : OkZ (tyS nm wk k) := by
  rw [← showS h hk]
  exact OkZ.showB (ok2 h) (fun q hq => by obtain ⟨h1, h2, h3⟩ := numS hw q hq; exact ⟨h1.1, h2.1, h3.1⟩) (hasS (ok2 h) hk)
end
end DL

end
/-! the evaluator as a tactic -/
local macro_rules
  | `(tactic| walk_at "sz") => `(tactic| first
      | assumption
      | exact (DL.Sz.of_nat (n := 64) (by decide))
      | ((with_reducible apply DL.Sz.add2) <;> walk_at "sz")
      | ((with_reducible apply DL.Sz.sub2) <;> walk_at "sz")
      | ((with_reducible apply DL.Sz.mul) <;> walk_at "sz")
      | ((with_reducible apply DL.Sz.neg) <;> walk_at "sz")
      | ((with_reducible apply DL.Sz.div) <;> walk_at "sz")
      | decide
      | omega)
local macro_rules
  | `(tactic| walk_at "nc") => `(tactic| first
      | assumption
      | exact DL.nice_int _ _
      | exact DL.nice_iL _
      | exact DL.nice_pL _
      | exact DL.nice_wL _
      | exact DL.nice_pD _
      | exact DL.nice_wD _
      | exact DL.nice_pD (_, _)
      | exact DL.nice_wD (_, _, _)
      | exact DL.nice_iLL _
      | exact DL.nice_nil _
      | exact DL.nice_none _
      | ((with_reducible apply DL.nice_two) <;> walk_at "nc")
      | ((with_reducible apply DL.nice_three) <;> walk_at "nc"))
local macro_rules
  | `(tactic| walk_at "ln") => `(tactic| first
      | assumption
      | ((fail_if_success (with_reducible apply DL.Ln.guard)); walk_at "lm"))
local macro_rules
  | `(tactic| walk_at "lm") => `(tactic| first
      | ((with_reducible apply DL.Ln.cons) <;> walk_at "ln")
      | ((with_reducible apply DL.Ln.nil) <;> walk_at "ln")
      | ((with_reducible apply DL.Ln.app) <;> walk_at "ln")
      | ((with_reducible apply DL.Ln.cut) <;> walk_at "ln")
      | ((with_reducible apply DL.Ln.rev) <;> walk_at "ln")
      | ((with_reducible apply DL.Ln.map) <;> walk_at "ln")
      | ((with_reducible apply DL.Ln.filter) <;> walk_at "ln")
      | ((with_reducible apply DL.Ln.range) <;> walk_at "ln")
      | exact DL.Ln.mk (by first | assumption | omega))
local macro_rules
  | `(tactic| walk_at "side") => `(tactic| first
      | assumption
      | (with_reducible exact DL.Sca.int _)
      | (with_reducible exact DL.Sca.bl _)
      | exact DL.Sca.int _
      | exact DL.Sca.bl _
      | ((show List.length _ + List.length _ ≤ 100000); (exact DL.Ln.add (by walk_at "ln") (by walk_at "ln") (by decide)))
      | ((show List.length _ ≤ 100000); (exact DL.Ln.le (by walk_at "ln") (by decide)))
      | ((show List.length _ ≤ 40000); (exact DL.Ln.le (by walk_at "ln") (by decide)))
      | ((show List.length _ < 100000); (exact DL.Ln.lt (by walk_at "ln") (by decide)))
      | ((show _ ≤ 100000); (first | decide | (simp; done) | omega))
      | ((show _ ≤ 40000); (first | decide | (simp; done) | omega | (rw [List.length_map]; omega)))
      | exact DL.atI_zero
      | exact DL.atI_one
      | exact DL.atI_two
      | exact L2.atI_nat (by first | assumption | rfl)
      | exact DL.atI_mapS (by first | assumption | exact L2.atI_nat (by assumption))
      | ((show (0 : Int) < _); (first | decide | omega))
      | ((show DL.CMulB _ _); (exact DL.Sz.mulB (by walk_at "sz") (by walk_at "sz") (by decide)))
      | ((show L2.CDivW _ _); (exact DL.Sz.divW (by first | decide | omega) (by walk_at "sz") (by decide)))
      | ((show L2.CPow _ _); (exact ⟨by decide, by decide, by decide⟩))
      | exact DL.rows_p _
      | exact DL.rows_w _
      | exact DL.rows_i _
      | exact Nat.le_of_ble_eq_true rfl
      | ((show (_ : List Nat) = _); rfl)
      | ((show PySem.SeqAt.shaped _ = true); (exact DL.Nice.shaped (by walk_at "nc") (by decide)))
      | exact DL.kb_ii
      | exact DL.kb_ib
      | exact DL.kb_bb
      | exact DL.kb_ll
      | exact DL.kb_tt
      | ((show DL.scalD _ _ = true); rfl)
      | ((show (_ : Prop) ∧ _); (first | decide | omega))
      | skip)
local macro_rules
  | `(tactic| walk_at "dlL") => `(tactic| first
      | ((with_reducible apply DL.el_lst) <;> walk_at "dl")
      | ((with_reducible apply DL.el_listOf) <;> walk_at "dl")
      | ((with_reducible apply DL.el_sl) <;> walk_at "dl")
      | ((with_reducible apply DL.el_revL) <;> walk_at "dl")
      | ((with_reducible apply DL.el_rev) <;> walk_at "dl")
      | ((with_reducible apply DL.el_listRg) <;> walk_at "dl")
      | ((with_reducible apply DL.el_call) <;> walk_at "dl")
      | ((with_reducible apply DL.el_cat) <;> walk_at "dl")
      | ((with_reducible apply DL.el_rep) <;> walk_at "dl")
      | ((with_reducible apply DL.el_copy) <;> walk_at "dl")
      | ((with_reducible apply DL.el_sorted) <;> walk_at "dl"))
local macro_rules
  | `(tactic| walk_at "dlE") => `(tactic| first
      | exact DL.ee_own rfl
      | exact DL.ee_val rfl
      | ((with_reducible apply DL.EvL.e) <;> walk_at "dlL")
      | ((with_reducible apply DL.Ev.e) <;> walk_at "dl"))
local macro_rules
  | `(tactic| walk_at "dlT") => `(tactic| first
      | exact DL.et_own rfl
      | ((with_reducible apply DL.EvL.t) <;> walk_at "dlL")
      | ((with_reducible apply DL.Ev.t) <;> walk_at "dl"))
local macro_rules
  | `(tactic| walk_at "dlR") => `(tactic| first
      | exact DL.er_own rfl
      | exact DL.er_var rfl
      | ((with_reducible apply DL.ev_ixR) <;> walk_at "dl")
      | ((with_reducible apply (DL.Ev.r (b := false))) <;> walk_at "dl"))
local macro_rules
  | `(tactic| walk_at "dlV") => `(tactic| first
      | ((fail_if_success (with_reducible apply DL.Ev.guard)); ((with_reducible apply DL.ev_ixI) <;> walk_at "dl"))
      | exact DL.ev_int
      | exact DL.ev_bl
      | exact DL.ev_str
      | exact DL.ev_non
      | exact DL.ev_var rfl
      | exact DL.ev_varS rfl rfl
      | exact DL.ev_varW rfl
      | ((with_reducible apply DL.ev_op0) <;> walk_at "dl")
      | ((with_reducible apply DL.ev_opI) <;> walk_at "dl")
      | ((with_reducible apply DL.ev_un) <;> walk_at "dl")
      | ((with_reducible apply DL.ev_eqI) <;> walk_at "dl")
      | ((with_reducible apply DL.ev_neI) <;> walk_at "dl")
      | ((with_reducible apply DL.ev_eq) <;> walk_at "dl")
      | ((with_reducible apply DL.ev_ne) <;> walk_at "dl")
      | ((with_reducible apply DL.ev_ix) <;> walk_at "dl")
      | ((with_reducible apply DL.ev_ixT) <;> walk_at "dl")
      | ((with_reducible apply DL.ev_len) <;> walk_at "dl")
      | ((with_reducible apply DL.ev_lenT) <;> walk_at "dl")
      | ((with_reducible apply DL.ev_max2) <;> walk_at "dl")
      | ((with_reducible apply DL.ev_min2) <;> walk_at "dl")
      | ((with_reducible apply DL.ev_intB) <;> walk_at "dl")
      | ((with_reducible apply DL.ev_sum) <;> walk_at "dl")
      | ((with_reducible apply DL.ev_inI) <;> walk_at "dl")
      | ((with_reducible apply DL.ev_niI) <;> walk_at "dl")
      | ((with_reducible apply DL.ev_inZ) <;> walk_at "dl")
      | ((with_reducible apply DL.ev_niZ) <;> walk_at "dl")
      | ((with_reducible apply DL.ev_andV) <;> walk_at "dl")
      | ((with_reducible apply DL.ev_orV) <;> walk_at "dl")
      | ((with_reducible apply DL.ev_notV) <;> walk_at "dl")
      | ((with_reducible apply DL.ev_tup) <;> walk_at "dl")
      | ((with_reducible apply DL.ev_isi) <;> walk_at "dl")
      | ((with_reducible apply DL.ev_divmod) <;> walk_at "dl")
      | ((with_reducible apply DL.ev_isN) <;> walk_at "dl")
      | ((with_reducible apply DL.ev_notN) <;> walk_at "dl")
      | ((with_reducible apply DL.ev_isB) <;> walk_at "dl")
      | ((with_reducible apply DL.ev_call) <;> walk_at "dl")
      | ((with_reducible apply DL.ev_callX) <;> walk_at "dl")
      | ((with_reducible apply DL.ev_eqD) <;> walk_at "dl")
      | ((with_reducible apply DL.ev_neD) <;> walk_at "dl")
      | ((with_reducible apply DL.ev_inD) <;> walk_at "dl")
      | ((with_reducible apply DL.ev_niD) <;> walk_at "dl")
      | ((with_reducible apply DL.EvL.ev) <;> walk_at "dlL"))
local macro_rules
  | `(tactic| walk_at "dl") => `(tactic| first
      | ((with_reducible (show Int)); skip)
      | ((with_reducible (show List PySem.PyData)); skip)
      | ((with_reducible (show PySem.PyData)); skip)
      | ((with_reducible (show Nat)); skip)
      | ((with_reducible (show Bool)); skip)
      | ((with_reducible (show PySem.Str)); skip)
      | ((with_reducible (show List Int)); skip)
      | ((with_reducible (show Option Int)); skip)
      | ((with_reducible (show List Bool)); skip)
      | ((with_reducible (show List PySem.Str)); skip)
      | ((with_reducible (show Type _)); skip)
      | assumption
      | exact DL.ea_nil
      | exact DL.ef_nil
      | exact DL.eo_none
      | exact DL.eb_yes
      | ((with_reducible apply DL.ea_cons) <;> walk_at "dl")
      | ((with_reducible apply DL.ef_cons) <;> walk_at "dl")
      | ((with_reducible apply DL.eo_some) <;> walk_at "dl")
      | ((with_reducible apply DL.eb_test) <;> walk_at "dl")
      | ((with_reducible apply DL.eb_B) <;> walk_at "dl")
      | ((with_reducible apply DL.eb_not) <;> walk_at "dl")
      | ((with_reducible apply DL.eb_and) <;> walk_at "dl")
      | ((with_reducible apply DL.eb_or) <;> walk_at "dl")
      | ((with_reducible (show DL.EvR _ _ _ _)); walk_at "dlR")
      | ((with_reducible (show DL.EvE _ _ _ _ _)); walk_at "dlE")
      | ((with_reducible (show DL.EvL _ _ _ _ _)); walk_at "dlL")
      | ((with_reducible (show DL.EvT _ _ _ _ _)); walk_at "dlT")
      | ((with_reducible (show DL.Ev _ _ _ _ _)); walk_at "dlV")
      | ((with_reducible intro _); walk_at "dl")
      | walk_at "side")
local macro_rules
  | `(tactic| walk_at "tg") => `(tactic| first
      | exact DL.tg_name
      | exact DL.tg_unl2
      | exact DL.tg_unl3
      | exact DL.tg_tup2
      | exact DL.tg_tup3
      | exact DL.tgs_nil
      | rfl
      | ((with_reducible apply DL.tg_unl) <;> walk_at "tg")
      | ((with_reducible apply DL.tg_tup) <;> walk_at "tg")
      | ((with_reducible apply DL.tgs_cons) <;> walk_at "tg"))
local macro_rules
  | `(tactic| walk_at "le1") => `(tactic| first
      | exact DL.Le.nil
      | ((with_reducible apply DL.Le.drop); walk_at "le1")
      | ((with_reducible apply DL.Le.keep); walk_at "le1")
      | ((with_reducible apply DL.Le.old); walk_at "le1")
      | ((with_reducible apply (DL.Le.sca rfl)); walk_at "le1")
      | ((refine DL.Le.eq ?_ ?_); (first | rfl | (simp; done) | skip); (walk_at "le1")))
local macro_rules
  | `(tactic| walk_at "le") => `(tactic| ((try dsimp only [List.set]); walk_at "le1"))
/-- a state told plainly -/
local macro_rules
  | `(tactic| walk_at "nm") => `(tactic| (try dsimp only [List.set]))

namespace LW
open PySem PySem.Spec PyProof.Rows L2 DL
abbrev topS (i : Nat) : Stmt := PySem.Challenge.pw_hastebook_k63_rows_refused.main.body.getD i (.Pass ⟨0, 0, 0, 0⟩)
abbrev s_waits : Stmt := topS 8
abbrev s_order_of : Stmt := topS 9
abbrev s_earliest : Stmt := topS 11
abbrev s_length : Stmt := topS 12
abbrev s_latest : Stmt := topS 13
abbrev s_spare : Stmt := topS 14
abbrev s_longest : Stmt := topS 15
abbrev s_arcs_of : Stmt := topS 17
abbrev s_steps_of : Stmt := topS 18
abbrev s_farthest : Stmt := topS 19
abbrev s_way_to : Stmt := topS 20
abbrev s_room_on : Stmt := topS 21
abbrev s_sent : Stmt := topS 22
abbrev s_levels : Stmt := topS 23
abbrev s_least_end : Stmt := topS 25
abbrev s_free_end : Stmt := topS 26
abbrev s_plan_by : Stmt := topS 27
abbrev s_plan_at : Stmt := topS 28
abbrev s_ways_of : Stmt := topS 29
abbrev s_stream_at : Stmt := topS 30
abbrev s_too_long : Stmt := topS 31
abbrev s_price_of : Stmt := topS 33
abbrev s_corners : Stmt := topS 35
abbrev s_steps_between : Stmt := topS 36
abbrev s_price_at : Stmt := topS 37
abbrev s_all_in : Stmt := topS 41
abbrev s_is_name : Stmt := topS 42
abbrev s_read_count : Stmt := topS 43
abbrev s_end_for : Stmt := topS 45
abbrev s_best_end : Stmt := topS 46
abbrev s_best_sum : Stmt := topS 47
abbrev s_is_said : Stmt := topS 50
abbrev s_shown : Stmt := topS 51
abbrev s_Book___init__ : Stmt := inClass (topS 52) 0
abbrev s_Book_listed : Stmt := inClass (topS 52) 1
abbrev s_Book_needs : Stmt := inClass (topS 52) 2
abbrev s_Book_standing : Stmt := inClass (topS 52) 3
abbrev s_Book_put_work : Stmt := inClass (topS 52) 4
abbrev s_Book_put_need : Stmt := inClass (topS 52) 5
abbrev s_Book_free_need : Stmt := inClass (topS 52) 6
abbrev s_Book_drop : Stmt := inClass (topS 52) 7
abbrev s_Book_change : Stmt := inClass (topS 52) 8
abbrev s_Book_show : Stmt := inClass (topS 52) 9
abbrev s_Book_told_plan : Stmt := inClass (topS 52) 10
abbrev s_Book_told_why : Stmt := inClass (topS 52) 11
abbrev s_Book_told_spare : Stmt := inClass (topS 52) 12
abbrev s_Book_told_whole : Stmt := inClass (topS 52) 13
abbrev s_Book_say : Stmt := inClass (topS 52) 14
abbrev s__law_mix : Stmt := topS 54
abbrev s__law_cell_at : Stmt := topS 55
abbrev s__law_names : Stmt := topS 56
abbrev s__law_no_name : Stmt := topS 57
abbrev s__law_of_words : Stmt := topS 58
abbrev s__law_of_names : Stmt := topS 59
abbrev s__law_of_texts : Stmt := topS 60
abbrev s__law_refused : Stmt := topS 61
abbrev s_law : Stmt := topS 62
structure Tb (mg : Str → Option Value) : Prop where
  list_ : mg "list" = none
  range_ : mg "range" = none
  len_ : mg "len" = none
  max_ : mg "max" = none
  min_ : mg "min" = none
  int_ : mg "int" = none
  str_ : mg "str" = none
  isinstance_ : mg "isinstance" = none
  ValueError_ : mg "ValueError" = none
  s_FIGURES : ∃ u, mg "FIGURES" = some u ∧ RelV (.str "0123456789") u
  s_LETTERS : ∃ u, mg "LETTERS" = some u ∧ RelV (.str "abcdefghijklmnopqrstuvwxyz") u
  s_MOST : ∃ u, mg "MOST" = some u ∧ RelV (.int 8) u

structure EX (K : PySem.W.Frag) (mg : Str → Option Value) (C_BookError C_NoOrder C_NoRoom C_NoRow C_NoName C_NoText : Addr) : Prop where
  g_BookError : mg "BookError" = some (.ref C_BookError)
  g_NoOrder : mg "NoOrder" = some (.ref C_NoOrder)
  g_NoRoom : mg "NoRoom" = some (.ref C_NoRoom)
  g_NoRow : mg "NoRow" = some (.ref C_NoRow)
  g_NoName : mg "NoName" = some (.ref C_NoName)
  g_NoText : mg "NoText" = some (.ref C_NoText)
  e_NoRoom : DL.EC K mg "NoRoom" C_NoRoom
  m_NoRoom : PySem.W.exmOne K (.ref C_NoRoom) (.ref C_BookError) = some true
  q_NoRoom_NoRow : PySem.W.kitOne K (.ref C_NoRoom) (.ref C_NoRow) = some false
  q_NoRoom_NoName : PySem.W.kitOne K (.ref C_NoRoom) (.ref C_NoName) = some false
  q_NoRoom_NoText : PySem.W.kitOne K (.ref C_NoRoom) (.ref C_NoText) = some false
  q_NoRoom_NoRoom : PySem.W.kitOne K (.ref C_NoRoom) (.ref C_NoRoom) = some true
  q_NoRoom_NoOrder : PySem.W.kitOne K (.ref C_NoRoom) (.ref C_NoOrder) = some false
  q_NoRoom_ValueError : PySem.W.kitOne K (.ref C_NoRoom) (.type "ValueError") = some true
  e_NoText : DL.EC K mg "NoText" C_NoText
  m_NoText : PySem.W.exmOne K (.ref C_NoText) (.ref C_BookError) = some true
  q_NoText_NoRow : PySem.W.kitOne K (.ref C_NoText) (.ref C_NoRow) = some false
  q_NoText_NoName : PySem.W.kitOne K (.ref C_NoText) (.ref C_NoName) = some false
  q_NoText_NoText : PySem.W.kitOne K (.ref C_NoText) (.ref C_NoText) = some true
  q_NoText_NoRoom : PySem.W.kitOne K (.ref C_NoText) (.ref C_NoRoom) = some false
  q_NoText_NoOrder : PySem.W.kitOne K (.ref C_NoText) (.ref C_NoOrder) = some false
  q_NoText_ValueError : PySem.W.kitOne K (.ref C_NoText) (.type "ValueError") = some true
  e_NoOrder : DL.EC K mg "NoOrder" C_NoOrder
  m_NoOrder : PySem.W.exmOne K (.ref C_NoOrder) (.ref C_BookError) = some true
  q_NoOrder_NoRow : PySem.W.kitOne K (.ref C_NoOrder) (.ref C_NoRow) = some false
  q_NoOrder_NoName : PySem.W.kitOne K (.ref C_NoOrder) (.ref C_NoName) = some false
  q_NoOrder_NoText : PySem.W.kitOne K (.ref C_NoOrder) (.ref C_NoText) = some false
  q_NoOrder_NoRoom : PySem.W.kitOne K (.ref C_NoOrder) (.ref C_NoRoom) = some false
  q_NoOrder_NoOrder : PySem.W.kitOne K (.ref C_NoOrder) (.ref C_NoOrder) = some true
  q_NoOrder_ValueError : PySem.W.kitOne K (.ref C_NoOrder) (.type "ValueError") = some true
  e_NoName : DL.EC K mg "NoName" C_NoName
  m_NoName : PySem.W.exmOne K (.ref C_NoName) (.ref C_BookError) = some true
  q_NoName_NoRow : PySem.W.kitOne K (.ref C_NoName) (.ref C_NoRow) = some false
  q_NoName_NoName : PySem.W.kitOne K (.ref C_NoName) (.ref C_NoName) = some true
  q_NoName_NoText : PySem.W.kitOne K (.ref C_NoName) (.ref C_NoText) = some false
  q_NoName_NoRoom : PySem.W.kitOne K (.ref C_NoName) (.ref C_NoRoom) = some false
  q_NoName_NoOrder : PySem.W.kitOne K (.ref C_NoName) (.ref C_NoOrder) = some false
  q_NoName_ValueError : PySem.W.kitOne K (.ref C_NoName) (.type "ValueError") = some true
  e_NoRow : DL.EC K mg "NoRow" C_NoRow
  m_NoRow : PySem.W.exmOne K (.ref C_NoRow) (.ref C_BookError) = some true
  q_NoRow_NoRow : PySem.W.kitOne K (.ref C_NoRow) (.ref C_NoRow) = some true
  q_NoRow_NoName : PySem.W.kitOne K (.ref C_NoRow) (.ref C_NoName) = some false
  q_NoRow_NoText : PySem.W.kitOne K (.ref C_NoRow) (.ref C_NoText) = some false
  q_NoRow_NoRoom : PySem.W.kitOne K (.ref C_NoRow) (.ref C_NoRoom) = some false
  q_NoRow_NoOrder : PySem.W.kitOne K (.ref C_NoRow) (.ref C_NoOrder) = some false
  q_NoRow_ValueError : PySem.W.kitOne K (.ref C_NoRow) (.type "ValueError") = some true
section
variable {P : Program} {w : World} {K : PySem.W.Frag} {mg : Str → Option Value} {base : Heap}
variable {C_BookError C_NoOrder C_NoRoom C_NoRow C_NoName C_NoText : Addr}
variable {C_Book : Addr}
def R_waits (ds : List PyData) (r : PyData) : Prop := ∃ (prs : List (Int × Int)) (w : Int) (ls : List Int) (b : Bool), ds = [pL prs, .int w, iL ls] ∧ (b = true ↔ MQ.Waits prs w ls) ∧ r = .bool b
theorem len_waits (ds : List PyData) (r : PyData) (h : R_waits ds r) : ds.length = 3 := by obtain ⟨n, k, _, _, rfl, _⟩ := h; rfl

abbrev N_waits : List Str := ["needs", "work", "left", "a", "b"]
theorem sc_waits : FnScope N_waits ["needs", "work", "left"] (defScope s_waits) := ⟨rfl, rfl, rfl, by decide +kernel, rfl, by decide +kernel, by decide +kernel⟩
theorem ok_waits (D : Dfn K mg "waits" s_waits ["needs", "work", "left"]) (T : Tb mg) (EX_ : EX K mg C_BookError C_NoOrder C_NoRoom C_NoRow C_NoName C_NoText) (CB : DL.BkC K C_Book) : Cl P w K mg base CX0 1 "waits" (spF K R_waits) := by
  refine cl_F (k := 0) D sc_waits len_waits fun f cdv A outer s H E hr => ⟨_, (pss_cons (ps_for PassesOwn.never rfl (DL.k_pi_list K (pv 0)) (DL.k_pg_unl K (n := 2) rfl (pgs_cons (pg_name (i := 3) sc_waits.nd rfl (Or.inl rfl)) (pgs_cons (pg_name (i := 4) sc_waits.nd rfl (Or.inl rfl)) pgs_nil))) (pss_one (ps_if (PW.pt (pw_and (pt_cmpR op_eq (pv 4) (pv 1) (nomark _)) (pw_and1 (pt_cmpR (DL.k_in_seq K) (pv 3) (pv 2) rfl)))) (pss_one (ps_ret pe_bl)) pss_nil)))
      (pss_one (ps_ret pe_bl))), ?_⟩
  rintro Q c _ _ ⟨prs, w, ls, b, rfl, hb, rfl⟩ hQ
  show Go c c.H0 _ _ [_, _, _, Sl.no, Sl.no]
  refine q_forD (b := false) (xs := prs) (enc := pD) (fun i => ∀ (k : Nat) (p : Int × Int), k < i → prs[k]? = some p → ¬ (p.2 = w ∧ p.1 ∈ ls)) (fun i => [.val false (pL prs), .val false (.int w), .val false (iL ls), .no, .no]) (by walk_at "dl") (fun k a h => by omega) (by walk_at "le") (fun B' i p hp hP => ?_) (fun hP => ?_)
  · refine ⟨_, _, (by walk_at "tg"), ?_⟩
    walk_at "nm"
    refine go_when (x := decide (p.2 = w) && decide (p.1 ∈ ls)) (by walk_at "dl") (fun h => ?_) fun h => ?_
    · simp at h
      rw [MQ.dec_true hb ⟨p, List.mem_of_getElem? hp, h⟩] at hQ
      exact go_ret ev_bl hQ
    · refine nx_turn (fun k q h1 h2 => ?_) (by walk_at "le")
      by_cases e : k = i
      · subst e
        rw [hp] at h2
        cases h2
        simpa using h
      · exact hP k q (by omega) h2
  · have nb : ¬ MQ.Waits prs w ls := by
      rintro ⟨p, hp, q⟩
      obtain ⟨k, hk⟩ := List.getElem?_of_mem hp
      exact hP k p (List.getElem?_eq_some_iff.mp hk).1 hk q
    rw [MQ.dec_false hb nb] at hQ
    exact go_ret ev_bl hQ
def O_order_of (A : Addr) (ds : List PyData) (o : PyData ⊕ Addr) : Prop := ∃ (m : Nat) (prs : List (Int × Int)), ds = [.int (m : Int), pL prs] ∧ m ≤ 1000 ∧ ((∃ os, MQ.IsOrd m prs os ∧ o = .inl (iL os)) ∨ (¬ MQ.Dag m prs ∧ o = .inr A))
theorem len_order_of {A : Addr} (ds : List PyData) (o : PyData ⊕ Addr) (h : O_order_of A ds o) : ds.length = 2 := by obtain ⟨n, k, rfl, _⟩ := h; rfl

abbrev N_order_of : List Str := ["many", "needs", "a", "b", "left", "found", "ready", "work"]
theorem sc_order_of : FnScope N_order_of ["many", "needs"] (defScope s_order_of) := ⟨rfl, rfl, rfl, by decide +kernel, rfl, by decide +kernel, by decide +kernel⟩
theorem ok_order_of (D : Dfn K mg "order_of" s_order_of ["many", "needs"]) (T : Tb mg) (EX_ : EX K mg C_BookError C_NoOrder C_NoRoom C_NoRow C_NoName C_NoText) (CB : DL.BkC K C_Book) (c_waits : Cl P w K mg base CX0 1 "waits" (spF K R_waits)) : Cl P w K mg base (L2.CX P w) 2 "order_of" (DL.spO K (O_order_of C_NoOrder)) := by
  refine cl_O (k := 1) D sc_order_of len_order_of fun f cdv A outer s H E hr => ⟨_, (pss_cons (ps_for (passes_of rfl) rfl (DL.k_pi_list K (pv 1)) (DL.k_pg_unl K (n := 2) rfl (pgs_cons (pg_name (i := 2) sc_order_of.nd rfl (Or.inl rfl)) (pgs_cons (pg_name (i := 3) sc_order_of.nd rfl (Or.inl rfl)) pgs_nil))) (pss_one (ps_if (PW.pt (pw_or (pt_cmpR op_lt (pv 2) pe_int (nomark _)) (pw_or (pt_cmpR op_ge (pv 2) (pv 0) (nomark _)) (pw_or (pt_cmpR op_lt (pv 3) pe_int (nomark _)) (pw_or1 (pt_cmpR op_ge (pv 3) (pv 0) (nomark _))))))) (pss_one (DL.ps_raiseK EX_.e_NoOrder rfl (takes_of rfl rfl rfl rfl) rfl)) pss_nil)))
      (pss_cons (ps_set (i := 4) sc_order_of.nd rfl (Or.inr rfl) (pe_listRg rfl rfl T.list_ (prg_1 rfl T.range_ (pv 0))))
      (pss_cons (ps_set (i := 5) sc_order_of.nd rfl (Or.inl rfl) (pe_lst pa_nil))
      (pss_cons (ps_while (passes_of rfl) (pt_cmpR op_gt (pe_callB (DL.k_len_seq K) rfl T.len_ (by decide +kernel) (pa_cons (pv 4) pa_nil)) pe_int (nomark _)) (pss_cons (ps_setLc (i := 6) rfl sc_order_of.nd rfl rfl (sw_true rfl rfl rfl (by decide +kernel)) (own := [("work", 7)]) (DL.k_pi_list K (pv 4)) (blkOk_by (N := N_order_of) (sc := defScope s_order_of) (by decide +kernel)) (fun _ _ _ _ _ => (pg_name (i := 7) sc_order_of.nd rfl (by first | exact Or.inl rfl | exact Or.inr rfl))) (fun _ _ _ _ _ => pts_one (pt_not (pt_val (DL.pe_cl c_waits (hr.mono (by decide)) rfl pass0 (pa_cons (pv 1) (pa_cons (pv 7) (pa_cons (pv 4) pa_nil))))))) (fun _ _ _ _ _ => (pv 7)))
      (pss_cons (ps_if (pt_cmpR op_eq (pe_callB (DL.k_len_seq K) rfl T.len_ (by decide +kernel) (pa_cons (pv 6) pa_nil)) pe_int (nomark _)) (pss_one (DL.ps_raiseK EX_.e_NoOrder rfl (takes_of rfl rfl rfl rfl) rfl)) pss_nil)
      (pss_cons (ps_expr (DL.k_bm K PySem.F.plainAttrs_list PySem.F.slot_list_append PySem.F.type_list_append mt_append (pv 5) (pa_cons (pe_ix (DL.k_ix_list K) (pv 6) pe_int (fun _ _ => rfl)) pa_nil)))
      (pss_one (ps_expr (DL.k_bm K PySem.F.plainAttrs_list PySem.F.slot_list_remove PySem.F.type_list_remove mt_remove (pv 4) (pa_cons (pe_ix (DL.k_ix_list K) (pv 6) pe_int (fun _ _ => rfl)) pa_nil))))))))
      (pss_one (ps_ret (pv 5))))))), ?_⟩
  rintro Q c _ o ⟨m, prs, rfl, hm, ho⟩ hQ
  show Go c c.H0 _ _ [_, _, Sl.no, Sl.no, Sl.no, Sl.no, Sl.no, Sl.no]
  have good : ∀ os, MQ.IsOrd m prs os → Rt c Q (iL os) := fun os h => by
    rcases ho with ⟨os', h', rfl⟩ | ⟨nd, rfl⟩
    · rw [h.ord.uniq h'.ord (h.len.trans h'.len.symm)]; exact hQ
    · exact absurd h.dag nd
  have bad : ¬ MQ.Dag m prs → ∀ H', Ex c.H0 H' → E (.ref C_NoOrder) none H' := fun nd => by
    rcases ho with ⟨os', h', rfl⟩ | ⟨nd', rfl⟩
    · exact absurd h'.dag nd
    · exact hQ
  refine q_forD (b := false) (xs := prs) (enc := pD) (fun i => ∀ (k : Nat) (p : Int × Int), k < i → prs[k]? = some p → 0 ≤ p.1 ∧ p.1 < (m : Int) ∧ 0 ≤ p.2 ∧ p.2 < (m : Int)) (fun i => [.val false (.int (m : Int)), .val false (pL prs), .no, .no, .no, .no, .no, .no]) (by walk_at "dl") (fun k a h => by omega) (by walk_at "le") (fun B' i p hp hP => ?_) (fun hP => ?_)
  · refine ⟨_, _, (by walk_at "tg"), ?_⟩
    walk_at "nm"
    refine go_when (x := decide (p.1 < 0) || (decide (p.1 ≥ (m : Int)) || (decide (p.2 < 0) || decide (p.2 ≥ (m : Int))))) (by walk_at "dl") (fun h => ?_) fun h => ?_
    · refine go_raise (bad fun d => ?_)
      have := d.inr p (List.mem_of_getElem? hp)
      simp at h
      omega
    · refine nx_turn (fun k q h1 h2 => ?_) (by walk_at "le")
      by_cases e : k = i
      · subst e
        rw [hp] at h2
        cases h2
        simp at h
        omega
      · exact hP k q (by omega) h2
  · have inr : MQ.InR m prs := fun p hp => by
      obtain ⟨k, hk⟩ := List.getElem?_of_mem hp
      exact hP k p (List.getElem?_eq_some_iff.mp hk).1 hk
    refine q_own (b := true) (ds := (MQ.leftOf m []).map PyData.int) (EvL.is (el_listRg (n := m) (by walk_at "dl") (by omega)) (by rw [MQ.left_nil, List.map_map]; rfl)) ?_
    walk_at "nm"
    refine q_own (b := true) (ds := []) (by walk_at "dl") ?_
    walk_at "nm"
    refine q_while (fun n ρ => ∃ f : List Int, MQ.Ord m prs f ∧ n + f.length = m ∧ Le [.val false (.int (m : Int)), .val false (pL prs), .no, .no, .own true ((MQ.leftOf m f).map PyData.int), .own true (f.map PyData.int), .no, .no] ρ) m ⟨[], .nil, rfl, (by walk_at "le")⟩ fun n ρ1 hI => ?_
    obtain ⟨f, hf, hn, l⟩ := hI
    have hll := MQ.left_len hf
    have hlf : (MQ.leftOf m f).length ≤ 1000 := by omega
    have lenL : (((MQ.leftOf m f).map PyData.int).length : Int) = (MQ.leftOf m f).length := by rw [List.length_map]
    refine ⟨decide ((((MQ.leftOf m f).map PyData.int).length : Int) > 0), EvB.weak l (by walk_at "dl"), fun h => go_weak l ?_, fun h => go_weak l ?_⟩
    · have h := of_decide_eq_true h
      have hlt : f.length < m := by omega
      obtain ⟨wb, hw⟩ : ∃ wb : Int → Bool, ∀ w, wb w = true ↔ MQ.Waits prs w (MQ.leftOf m f) := ⟨fun w => (MQ.dec (MQ.Waits prs w (MQ.leftOf m f))).choose, fun w => (MQ.dec (MQ.Waits prs w (MQ.leftOf m f))).choose_spec⟩
      have hwR : ∀ w, R_waits [pL prs, .int w, iL (MQ.leftOf m f)] (.bool (wb w)) := fun w => ⟨prs, w, _, wb w, rfl, hw w, rfl⟩
      refine q_val (b := true) (d := iL ((MQ.leftOf m f).filter fun w => !wb w)) (EvL.ev (EvL.is (el_lc (b0 := true) (xs := MQ.leftOf m f) (enc := PyData.int) (js := [7]) (fun w => !wb w) PyData.int (by walk_at "dl") (by omega) (by simp) fun w _ => ⟨_, tg_name, eb_not (eb_test (Ev.r (b := false) (ev_call (ds := [pL prs, .int w, iL (MQ.leftOf m f)]) (by walk_at "dl") (hwR w)))), fun _ => (by walk_at "dl")⟩) rfl)) ?_
      walk_at "nm"
      cases hr : (MQ.leftOf m f).filter (fun w => !wb w) with
      | nil =>
        refine q_when (x := true) (EvB.is (x := decide (((([] : List Int).map PyData.int).length : Int) = 0)) (by walk_at "dl") rfl) (fun _ => ?_) fun h => nomatch h
        exact go_raise (bad fun d => MQ.stuck_of wb hw hr (d.step hf hlt))
      | cons x rest =>
        refine q_when (x := false) (EvB.is (x := decide ((((x :: rest).map PyData.int).length : Int) = 0)) (by walk_at "dl") (decide_eq_false (by rw [List.map_cons, List.length_cons]; omega))) (fun h => nomatch h) fun _ => ?_
        have sx := MQ.step_of_ready inr wb hw hr
        have mx : x ∈ MQ.leftOf m f := MQ.mem_left.mpr ⟨sx.lo, sx.hi, sx.new⟩
        refine q_app (b := true) (d := .int x) rfl (ev_ix (ds := (x :: rest).map PyData.int) (i := 0) (by walk_at "dl") (by walk_at "dl") atI_zero) (by rw [List.length_map]; omega) ?_
        walk_at "nm"
        have nd : (MQ.leftOf m f).Nodup := List.nodup_iff_pairwise_ne.mpr (MQ.left_sorted.imp fun h => by omega)
        obtain ⟨j, hj⟩ := List.getElem?_of_mem mx
        refine go_remove (ns := MQ.leftOf m f) (k0 := x) (j0 := j) rfl (ev_ixR (ds := (x :: rest).map PyData.int) (i := 0) (by walk_at "dl") (by walk_at "dl") atI_zero) hj (fun k hk e => ?_) (nx_pst ⟨n - 1, by omega, f ++ [x], hf.snoc sx, by rw [List.length_append, List.length_singleton]; omega, ?_⟩)
        · have e1 := MQ.idxOf_get nd hj
          have e2 := MQ.idxOf_get nd e
          omega
        · rw [MQ.left_snoc hj, List.map_append]
          exact (by walk_at "le")
    · have h := of_decide_eq_false h
      have hlt : f.length = m := by omega
      exact go_retO rfl (good f ⟨inr, hf, hlt⟩)
abbrev N_earliest : List Str := ["hours", "needs", "begins", "work", "a", "b"]
theorem sc_earliest : FnScope N_earliest ["hours", "needs"] (defScope s_earliest) := ⟨rfl, rfl, rfl, by decide +kernel, rfl, by decide +kernel, by decide +kernel⟩
theorem ok_earliest (D : Dfn K mg "earliest" s_earliest ["hours", "needs"]) (T : Tb mg) (EX_ : EX K mg C_BookError C_NoOrder C_NoRoom C_NoRow C_NoName C_NoText) (CB : DL.BkC K C_Book) (c_order_of : Cl P w K mg base (L2.CX P w) 2 "order_of" (DL.spO K (O_order_of C_NoOrder))) : Cl P w K mg base CX0 3 "earliest" (fun _ _ _ _ => False) := cl_none D sc_earliest
abbrev N_length : List Str := ["hours", "needs", "begins", "work"]
theorem sc_length : FnScope N_length ["hours", "needs"] (defScope s_length) := ⟨rfl, rfl, rfl, by decide +kernel, rfl, by decide +kernel, by decide +kernel⟩
theorem ok_length (D : Dfn K mg "length" s_length ["hours", "needs"]) (T : Tb mg) (EX_ : EX K mg C_BookError C_NoOrder C_NoRoom C_NoRow C_NoName C_NoText) (CB : DL.BkC K C_Book) (c_earliest : Cl P w K mg base CX0 3 "earliest" (fun _ _ _ _ => False)) : Cl P w K mg base CX0 4 "length" (fun _ _ _ _ => False) := cl_none D sc_length
abbrev N_latest : List Str := ["hours", "needs", "end", "begins", "work", "a", "b"]
theorem sc_latest : FnScope N_latest ["hours", "needs", "end"] (defScope s_latest) := ⟨rfl, rfl, rfl, by decide +kernel, rfl, by decide +kernel, by decide +kernel⟩
theorem ok_latest (D : Dfn K mg "latest" s_latest ["hours", "needs", "end"]) (T : Tb mg) (EX_ : EX K mg C_BookError C_NoOrder C_NoRoom C_NoRow C_NoName C_NoText) (CB : DL.BkC K C_Book) (c_length : Cl P w K mg base CX0 4 "length" (fun _ _ _ _ => False)) (c_order_of : Cl P w K mg base (L2.CX P w) 2 "order_of" (DL.spO K (O_order_of C_NoOrder))) : Cl P w K mg base CX0 5 "latest" (fun _ _ _ _ => False) := cl_none D sc_latest
abbrev N_spare : List Str := ["hours", "needs", "end", "late", "early", "work"]
theorem sc_spare : FnScope N_spare ["hours", "needs", "end"] (defScope s_spare) := ⟨rfl, rfl, rfl, by decide +kernel, rfl, by decide +kernel, by decide +kernel⟩
theorem ok_spare (D : Dfn K mg "spare" s_spare ["hours", "needs", "end"]) (T : Tb mg) (EX_ : EX K mg C_BookError C_NoOrder C_NoRoom C_NoRow C_NoName C_NoText) (CB : DL.BkC K C_Book) (c_latest : Cl P w K mg base CX0 5 "latest" (fun _ _ _ _ => False)) (c_earliest : Cl P w K mg base CX0 3 "earliest" (fun _ _ _ _ => False)) : Cl P w K mg base CX0 6 "spare" (fun _ _ _ _ => False) := cl_none D sc_spare
abbrev N_longest : List Str := ["hours", "needs", "begins", "most", "way", "work", "here", "a", "b"]
theorem sc_longest : FnScope N_longest ["hours", "needs"] (defScope s_longest) := ⟨rfl, rfl, rfl, by decide +kernel, rfl, by decide +kernel, by decide +kernel⟩
theorem ok_longest (D : Dfn K mg "longest" s_longest ["hours", "needs"]) (T : Tb mg) (EX_ : EX K mg C_BookError C_NoOrder C_NoRoom C_NoRow C_NoName C_NoText) (CB : DL.BkC K C_Book) (c_earliest : Cl P w K mg base CX0 3 "earliest" (fun _ _ _ _ => False)) (c_length : Cl P w K mg base CX0 4 "length" (fun _ _ _ _ => False)) : Cl P w K mg base CX0 5 "longest" (fun _ _ _ _ => False) := cl_none D sc_longest
abbrev N_arcs_of : List Str := ["works", "needs", "arcs", "k", "usual", "least", "price"]
theorem sc_arcs_of : FnScope N_arcs_of ["works", "needs"] (defScope s_arcs_of) := ⟨rfl, rfl, rfl, by decide +kernel, rfl, by decide +kernel, by decide +kernel⟩
theorem ok_arcs_of (D : Dfn K mg "arcs_of" s_arcs_of ["works", "needs"]) (T : Tb mg) (EX_ : EX K mg C_BookError C_NoOrder C_NoRoom C_NoRow C_NoName C_NoText) (CB : DL.BkC K C_Book) : Cl P w K mg base CX0 1 "arcs_of" (fun _ _ _ _ => False) := cl_none D sc_arcs_of
abbrev N_steps_of : List Str := ["arcs", "flow", "found", "k", "start", "goal", "hours", "most"]
theorem sc_steps_of : FnScope N_steps_of ["arcs", "flow"] (defScope s_steps_of) := ⟨rfl, rfl, rfl, by decide +kernel, rfl, by decide +kernel, by decide +kernel⟩
theorem ok_steps_of (D : Dfn K mg "steps_of" s_steps_of ["arcs", "flow"]) (T : Tb mg) (EX_ : EX K mg C_BookError C_NoOrder C_NoRoom C_NoRow C_NoName C_NoText) (CB : DL.BkC K C_Book) : Cl P w K mg base CX0 1 "steps_of" (fun _ _ _ _ => False) := cl_none D sc_steps_of
abbrev N_farthest : List Str := ["many", "steps", "far", "came", "changed", "step", "here", "spot"]
theorem sc_farthest : FnScope N_farthest ["many", "steps"] (defScope s_farthest) := ⟨rfl, rfl, rfl, by decide +kernel, rfl, by decide +kernel, by decide +kernel⟩
theorem ok_farthest (D : Dfn K mg "farthest" s_farthest ["many", "steps"]) (T : Tb mg) (EX_ : EX K mg C_BookError C_NoOrder C_NoRoom C_NoRow C_NoName C_NoText) (CB : DL.BkC K C_Book) : Cl P w K mg base CX0 1 "farthest" (fun _ _ _ _ => False) := cl_none D sc_farthest
abbrev N_way_to : List Str := ["came", "found", "spot"]
theorem sc_way_to : FnScope N_way_to ["came"] (defScope s_way_to) := ⟨rfl, rfl, rfl, by decide +kernel, rfl, by decide +kernel, by decide +kernel⟩
theorem ok_way_to (D : Dfn K mg "way_to" s_way_to ["came"]) (T : Tb mg) (EX_ : EX K mg C_BookError C_NoOrder C_NoRoom C_NoRow C_NoName C_NoText) (CB : DL.BkC K C_Book) : Cl P w K mg base CX0 1 "way_to" (fun _ _ _ _ => False) := cl_none D sc_way_to
abbrev N_room_on : List Str := ["arcs", "flow", "way", "room", "start", "goal", "hours", "k", "sign", "free"]
theorem sc_room_on : FnScope N_room_on ["arcs", "flow", "way"] (defScope s_room_on) := ⟨rfl, rfl, rfl, by decide +kernel, rfl, by decide +kernel, by decide +kernel⟩
theorem ok_room_on (D : Dfn K mg "room_on" s_room_on ["arcs", "flow", "way"]) (T : Tb mg) (EX_ : EX K mg C_BookError C_NoOrder C_NoRoom C_NoRow C_NoName C_NoText) (CB : DL.BkC K C_Book) : Cl P w K mg base CX0 1 "room_on" (fun _ _ _ _ => False) := cl_none D sc_room_on
abbrev N_sent : List Str := ["flow", "way", "amount", "found", "start", "goal", "hours", "k", "sign"]
theorem sc_sent : FnScope N_sent ["flow", "way", "amount"] (defScope s_sent) := ⟨rfl, rfl, rfl, by decide +kernel, rfl, by decide +kernel, by decide +kernel⟩
theorem ok_sent (D : Dfn K mg "sent" s_sent ["flow", "way", "amount"]) (T : Tb mg) (EX_ : EX K mg C_BookError C_NoOrder C_NoRoom C_NoRow C_NoName C_NoText) (CB : DL.BkC K C_Book) : Cl P w K mg base CX0 1 "sent" (fun _ _ _ _ => False) := cl_none D sc_sent
abbrev N_levels : List Str := ["works", "needs", "arcs", "flow", "arc", "found", "room", "far", "came", "way"]
theorem sc_levels : FnScope N_levels ["works", "needs"] (defScope s_levels) := ⟨rfl, rfl, rfl, by decide +kernel, rfl, by decide +kernel, by decide +kernel⟩
theorem ok_levels (D : Dfn K mg "levels" s_levels ["works", "needs"]) (T : Tb mg) (EX_ : EX K mg C_BookError C_NoOrder C_NoRoom C_NoRow C_NoName C_NoText) (CB : DL.BkC K C_Book) (c_order_of : Cl P w K mg base (L2.CX P w) 2 "order_of" (DL.spO K (O_order_of C_NoOrder))) (c_arcs_of : Cl P w K mg base CX0 1 "arcs_of" (fun _ _ _ _ => False)) (c_farthest : Cl P w K mg base CX0 1 "farthest" (fun _ _ _ _ => False)) (c_way_to : Cl P w K mg base CX0 1 "way_to" (fun _ _ _ _ => False)) (c_room_on : Cl P w K mg base CX0 1 "room_on" (fun _ _ _ _ => False)) (c_steps_of : Cl P w K mg base CX0 1 "steps_of" (fun _ _ _ _ => False)) (c_sent : Cl P w K mg base CX0 1 "sent" (fun _ _ _ _ => False)) : Cl P w K mg base CX0 3 "levels" (fun _ _ _ _ => False) := cl_none D sc_levels
abbrev N_least_end : List Str := ["works", "needs", "work"]
theorem sc_least_end : FnScope N_least_end ["works", "needs"] (defScope s_least_end) := ⟨rfl, rfl, rfl, by decide +kernel, rfl, by decide +kernel, by decide +kernel⟩
theorem ok_least_end (D : Dfn K mg "least_end" s_least_end ["works", "needs"]) (T : Tb mg) (EX_ : EX K mg C_BookError C_NoOrder C_NoRoom C_NoRow C_NoName C_NoText) (CB : DL.BkC K C_Book) (c_length : Cl P w K mg base CX0 4 "length" (fun _ _ _ _ => False)) : Cl P w K mg base CX0 5 "least_end" (fun _ _ _ _ => False) := cl_none D sc_least_end
abbrev N_free_end : List Str := ["works", "needs", "work"]
theorem sc_free_end : FnScope N_free_end ["works", "needs"] (defScope s_free_end) := ⟨rfl, rfl, rfl, by decide +kernel, rfl, by decide +kernel, by decide +kernel⟩
theorem ok_free_end (D : Dfn K mg "free_end" s_free_end ["works", "needs"]) (T : Tb mg) (EX_ : EX K mg C_BookError C_NoOrder C_NoRoom C_NoRow C_NoName C_NoText) (CB : DL.BkC K C_Book) (c_length : Cl P w K mg base CX0 4 "length" (fun _ _ _ _ => False)) : Cl P w K mg base CX0 5 "free_end" (fun _ _ _ _ => False) := cl_none D sc_free_end
abbrev N_plan_by : List Str := ["works", "far", "found", "k", "begin"]
theorem sc_plan_by : FnScope N_plan_by ["works", "far"] (defScope s_plan_by) := ⟨rfl, rfl, rfl, by decide +kernel, rfl, by decide +kernel, by decide +kernel⟩
theorem ok_plan_by (D : Dfn K mg "plan_by" s_plan_by ["works", "far"]) (T : Tb mg) (EX_ : EX K mg C_BookError C_NoOrder C_NoRoom C_NoRow C_NoName C_NoText) (CB : DL.BkC K C_Book) : Cl P w K mg base CX0 1 "plan_by" (fun _ _ _ _ => False) := cl_none D sc_plan_by
abbrev N_plan_at : List Str := ["works", "needs", "end", "found", "k", "at", "sooner", "later", "late", "spot"]
theorem sc_plan_at : FnScope N_plan_at ["works", "needs", "end"] (defScope s_plan_at) := ⟨rfl, rfl, rfl, by decide +kernel, rfl, by decide +kernel, by decide +kernel⟩
theorem ok_plan_at (D : Dfn K mg "plan_at" s_plan_at ["works", "needs", "end"]) (T : Tb mg) (EX_ : EX K mg C_BookError C_NoOrder C_NoRoom C_NoRow C_NoName C_NoText) (CB : DL.BkC K C_Book) (c_levels : Cl P w K mg base CX0 3 "levels" (fun _ _ _ _ => False)) (c_plan_by : Cl P w K mg base CX0 1 "plan_by" (fun _ _ _ _ => False)) : Cl P w K mg base CX0 4 "plan_at" (fun _ _ _ _ => False) := cl_none D sc_plan_at
abbrev N_ways_of : List Str := ["works", "arcs", "flow", "left", "found", "first", "used", "way", "spot", "on", "k", "amount"]
theorem sc_ways_of : FnScope N_ways_of ["works", "arcs", "flow"] (defScope s_ways_of) := ⟨rfl, rfl, rfl, by decide +kernel, rfl, by decide +kernel, by decide +kernel⟩
theorem ok_ways_of (D : Dfn K mg "ways_of" s_ways_of ["works", "arcs", "flow"]) (T : Tb mg) (EX_ : EX K mg C_BookError C_NoOrder C_NoRoom C_NoRow C_NoName C_NoText) (CB : DL.BkC K C_Book) : Cl P w K mg base CX0 1 "ways_of" (fun _ _ _ _ => False) := cl_none D sc_ways_of
abbrev N_stream_at : List Str := ["works", "needs", "end", "found", "flow", "level"]
theorem sc_stream_at : FnScope N_stream_at ["works", "needs", "end"] (defScope s_stream_at) := ⟨rfl, rfl, rfl, by decide +kernel, rfl, by decide +kernel, by decide +kernel⟩
theorem ok_stream_at (D : Dfn K mg "stream_at" s_stream_at ["works", "needs", "end"]) (T : Tb mg) (EX_ : EX K mg C_BookError C_NoOrder C_NoRoom C_NoRow C_NoName C_NoText) (CB : DL.BkC K C_Book) (c_levels : Cl P w K mg base CX0 3 "levels" (fun _ _ _ _ => False)) (c_ways_of : Cl P w K mg base CX0 1 "ways_of" (fun _ _ _ _ => False)) (c_arcs_of : Cl P w K mg base CX0 1 "arcs_of" (fun _ _ _ _ => False)) : Cl P w K mg base CX0 4 "stream_at" (fun _ _ _ _ => False) := cl_none D sc_stream_at
abbrev N_too_long : List Str := ["works", "needs", "end", "hours", "work"]
theorem sc_too_long : FnScope N_too_long ["works", "needs", "end"] (defScope s_too_long) := ⟨rfl, rfl, rfl, by decide +kernel, rfl, by decide +kernel, by decide +kernel⟩
theorem ok_too_long (D : Dfn K mg "too_long" s_too_long ["works", "needs", "end"]) (T : Tb mg) (EX_ : EX K mg C_BookError C_NoOrder C_NoRoom C_NoRow C_NoName C_NoText) (CB : DL.BkC K C_Book) (c_length : Cl P w K mg base CX0 4 "length" (fun _ _ _ _ => False)) (c_longest : Cl P w K mg base CX0 5 "longest" (fun _ _ _ _ => False)) : Cl P w K mg base CX0 6 "too_long" (fun _ _ _ _ => False) := cl_none D sc_too_long
abbrev N_price_of : List Str := ["works", "plan", "total", "k", "usual", "least", "price"]
theorem sc_price_of : FnScope N_price_of ["works", "plan"] (defScope s_price_of) := ⟨rfl, rfl, rfl, by decide +kernel, rfl, by decide +kernel, by decide +kernel⟩
theorem ok_price_of (D : Dfn K mg "price_of" s_price_of ["works", "plan"]) (T : Tb mg) (EX_ : EX K mg C_BookError C_NoOrder C_NoRoom C_NoRow C_NoName C_NoText) (CB : DL.BkC K C_Book) : Cl P w K mg base CX0 1 "price_of" (fun _ _ _ _ => False) := cl_none D sc_price_of
abbrev N_corners : List Str := ["works", "needs", "level"]
theorem sc_corners : FnScope N_corners ["works", "needs"] (defScope s_corners) := ⟨rfl, rfl, rfl, by decide +kernel, rfl, by decide +kernel, by decide +kernel⟩
theorem ok_corners (D : Dfn K mg "corners" s_corners ["works", "needs"]) (T : Tb mg) (EX_ : EX K mg C_BookError C_NoOrder C_NoRoom C_NoRow C_NoName C_NoText) (CB : DL.BkC K C_Book) (c_price_of : Cl P w K mg base CX0 1 "price_of" (fun _ _ _ _ => False)) (c_levels : Cl P w K mg base CX0 3 "levels" (fun _ _ _ _ => False)) (c_plan_by : Cl P w K mg base CX0 1 "plan_by" (fun _ _ _ _ => False)) : Cl P w K mg base CX0 4 "corners" (fun _ _ _ _ => False) := cl_none D sc_corners
abbrev N_steps_between : List Str := ["found", "k"]
theorem sc_steps_between : FnScope N_steps_between ["found"] (defScope s_steps_between) := ⟨rfl, rfl, rfl, by decide +kernel, rfl, by decide +kernel, by decide +kernel⟩
theorem ok_steps_between (D : Dfn K mg "steps_between" s_steps_between ["found"]) (T : Tb mg) (EX_ : EX K mg C_BookError C_NoOrder C_NoRoom C_NoRow C_NoName C_NoText) (CB : DL.BkC K C_Book) : Cl P w K mg base CX0 1 "steps_between" (fun _ _ _ _ => False) := cl_none D sc_steps_between
abbrev N_price_at : List Str := ["works", "needs", "end", "found", "steps", "k"]
theorem sc_price_at : FnScope N_price_at ["works", "needs", "end"] (defScope s_price_at) := ⟨rfl, rfl, rfl, by decide +kernel, rfl, by decide +kernel, by decide +kernel⟩
theorem ok_price_at (D : Dfn K mg "price_at" s_price_at ["works", "needs", "end"]) (T : Tb mg) (EX_ : EX K mg C_BookError C_NoOrder C_NoRoom C_NoRow C_NoName C_NoText) (CB : DL.BkC K C_Book) (c_corners : Cl P w K mg base CX0 4 "corners" (fun _ _ _ _ => False)) (c_steps_between : Cl P w K mg base CX0 1 "steps_between" (fun _ _ _ _ => False)) : Cl P w K mg base CX0 5 "price_at" (fun _ _ _ _ => False) := cl_none D sc_price_at
def R_all_in (ds : List PyData) (r : PyData) : Prop := ∃ (z s : Str) (m : Int), ds = [.str z, .str s, .int m] ∧ z.length ≤ 100 ∧ r = .bool (!(decide ((z.length : Int) = 0) || decide ((z.length : Int) > m)) && allZ z s)
theorem len_all_in (ds : List PyData) (r : PyData) (h : R_all_in ds r) : ds.length = 3 := by obtain ⟨_, _, _, rfl, _⟩ := h; rfl

abbrev N_all_in : List Str := ["text", "signs", "most", "sign"]
theorem sc_all_in : FnScope N_all_in ["text", "signs", "most"] (defScope s_all_in) := ⟨rfl, rfl, rfl, by decide +kernel, rfl, by decide +kernel, by decide +kernel⟩
theorem ok_all_in (D : Dfn K mg "all_in" s_all_in ["text", "signs", "most"]) (T : Tb mg) (EX_ : EX K mg C_BookError C_NoOrder C_NoRoom C_NoRow C_NoName C_NoText) (CB : DL.BkC K C_Book) : Cl P w K mg base CX0 1 "all_in" (spF K R_all_in) := by
  refine cl_F (k := 0) D sc_all_in len_all_in fun f cdv A outer s H E hr => ⟨_, (pss_cons (ps_if (PW.pt (pw_or (pt_cmpR op_eq (pe_callB call_len_str rfl T.len_ (by decide +kernel) (pa_cons (pv 0) pa_nil)) pe_int (nomark _)) (pw_or1 (pt_cmpR op_gt (pe_callB call_len_str rfl T.len_ (by decide +kernel) (pa_cons (pv 0) pa_nil)) (pv 2) (nomark _))))) (pss_one (ps_ret pe_bl)) pss_nil)
      (pss_cons (ps_for PassesOwn.never rfl (pi_str (pv 0)) (pg_name (i := 3) sc_all_in.nd rfl (Or.inl rfl)) (pss_one (ps_if (pt_cmpR op_notIn_sign (pv 3) (pv 1) rfl) (pss_one (ps_ret pe_bl)) pss_nil)))
      (pss_one (ps_ret pe_bl)))), ?_⟩
  rintro Q c _ _ ⟨z, s, m, rfl, hl, rfl⟩ hQ
  show Go c c.H0 _ _ [_, _, _, Sl.no]
  refine q_when (x := decide ((z.length : Int) = 0) || decide ((z.length : Int) > m)) (eb_or (eb_test (Ev.r (b := false) (ev_eqI (Ev.r (b := false) (ev_lenS (er_var rfl) (by omega))) (by walk_at "dl")))) fun _ => eb_test (Ev.r (b := false) (ev_op0 (i := (z.length : Int)) (j := m) (Ev.r (b := false) (ev_lenS (er_var rfl) (by omega))) (by walk_at "dl") (.bl _)))) (fun h => ?_) (fun h => ?_)
  · rw [h] at hQ
    exact go_ret (d := .bool false) (by walk_at "dl") hQ
  rw [h] at hQ
  have hQ : Rt c Q (.bool (allZ z s)) := hQ
  refine q_forS (ev_var rfl) (fun i ρ => (∀ (j n : Nat), j < i → z.cps.toList[j]? = some n → n ∈ s.cps.toList) ∧ Le [.val false (.str z), .val false (.str s), .val false (.int m), .no] ρ) ⟨fun j n h => absurd h (Nat.not_lt_zero _), (by walk_at "le")⟩ (fun B' i n ρ1 hx hI => ?_) (fun ρ1 hI => ?_)
  · obtain ⟨h1, l⟩ := hI
    refine ⟨_, _, tg_weak l tg_name, ?_⟩
    walk_at "nm"
    refine go_when (x := !decide (n ∈ s.cps.toList)) (eb_test (Ev.r (b := false) (ev_niSg (er_var rfl) (er_var rfl)))) (fun h => ?_) (fun h => nx_pst ⟨fun j m hj hm => ?_, (by walk_at "le")⟩)
    · have h : n ∉ s.cps.toList := by simpa using h
      rw [allZ_no hx h] at hQ
      exact go_ret (d := .bool false) (by walk_at "dl") hQ
    · have h : n ∈ s.cps.toList := by simpa using h
      by_cases e : j = i
      · rw [e, hx] at hm
        cases hm
        exact h
      · exact h1 j m (by omega) hm
  · obtain ⟨h1, l⟩ := hI
    rw [allZ_yes fun j n hj => h1 j n (List.getElem?_eq_some_iff.mp hj).1 hj] at hQ
    exact go_weak l (go_ret (d := .bool true) (by walk_at "dl") hQ)
def lettersZ : Str := "abcdefghijklmnopqrstuvwxyz"
def figuresZ : Str := "0123456789"
def R_is_name (ds : List PyData) (r : PyData) : Prop := ∃ z : Str, ds = [.str z] ∧ z.length ≤ 100 ∧ r = .bool (!(decide ((z.length : Int) = 0) || decide ((z.length : Int) > 8)) && allZ z lettersZ)
theorem len_is_name (ds : List PyData) (r : PyData) (h : R_is_name ds r) : ds.length = 1 := by obtain ⟨_, rfl, _⟩ := h; rfl

abbrev N_is_name : List Str := ["text"]
theorem sc_is_name : FnScope N_is_name ["text"] (defScope s_is_name) := ⟨rfl, rfl, rfl, by decide +kernel, rfl, by decide +kernel, by decide +kernel⟩
theorem ok_is_name (D : Dfn K mg "is_name" s_is_name ["text"]) (T : Tb mg) (EX_ : EX K mg C_BookError C_NoOrder C_NoRoom C_NoRow C_NoName C_NoText) (CB : DL.BkC K C_Book) (c_all_in : Cl P w K mg base CX0 1 "all_in" (spF K R_all_in)) : Cl P w K mg base CX0 2 "is_name" (spF K R_is_name) := by
  refine cl_F (k := 1) D sc_is_name len_is_name fun f cdv A outer s H E hr => ⟨_, (pss_one (ps_ret (DL.pe_cl c_all_in (hr.mono (by decide)) rfl pass0 (pa_cons (pv 0) (pa_cons (C8.pe_gc rfl T.s_LETTERS) (pa_cons pe_int pa_nil)))))), ?_⟩
  rintro Q c _ _ ⟨z, rfl, hl, rfl⟩ hQ
  show Go c c.H0 _ _ [_]
  have hA : R_all_in [.str z, .str lettersZ, .int 8] (.bool (!(decide ((z.length : Int) = 0) || decide ((z.length : Int) > 8)) && allZ z lettersZ)) := ⟨z, lettersZ, 8, rfl, hl, rfl⟩
  exact go_ret (ev_call (ds := [.str z, .str lettersZ, .int 8]) (ea_cons (by walk_at "dl") (ea_cons (show EvR _ _ _ (.str lettersZ) from Ev.r (b := false) ev_str) (ea_cons (by walk_at "dl") ea_nil))) hA) hQ
def okZ (z : Str) : Bool := !(decide ((z.length : Int) = 0) || decide ((z.length : Int) > 30)) && allZ z figuresZ
def leadZ (z : Str) : Bool := decide (z.cps.toList.head? = some 48) && !decide (z = "0")
theorem fig_digits : figuresZ.cps.toList = [48, 49, 50, 51, 52, 53, 54, 55, 56, 57] := by decide +kernel
theorem fig_mem {n : Nat} (h : n ∈ figuresZ.cps.toList) : 48 ≤ n ∧ n ≤ 57 := by
  rw [fig_digits] at h
  simp only [List.mem_cons, List.not_mem_nil, or_false] at h
  omega
theorem ok_len {z : Str} (h : okZ z = true) : 1 ≤ z.length ∧ z.length ≤ 30 ∧ allZ z figuresZ = true := by
  unfold okZ at h
  rw [Bool.and_eq_true] at h
  refine ⟨?_, ?_, h.2⟩
  · have := h.1
    simp at this
    omega
  · have := h.1
    simp at this
    omega
theorem ok_int {z : Str} (h : okZ z = true) : PySem.intText? z = some (valZ z) := by
  obtain ⟨h1, h2, h3⟩ := ok_len h
  have e := SX.int_S (a := z.cps.toList) (List.all_eq_true.mpr fun n hn => by
    unfold allZ at h3
    have := fig_mem (of_decide_eq_true (List.all_eq_true.mp h3 n hn))
    simp
    omega) (fun q => by rw [← toL_len, q] at h1; simp at h1) (by rw [toL_len]; omega)
  rw [SX.S_tl] at e
  exact e
theorem lead_is {z : Str} {n : Nat} (hx : atI z.cps.toList 0 = some n) : leadZ z = (decide ((⟨#[n]⟩ : Str) = Str.ofString "0") && !decide (z = Str.ofString "0")) := by
  have hd : z.cps.toList.head? = some n := by
    cases e : z.cps.toList with
    | nil => rw [e] at hx; simp [atI, ixN] at hx
    | cons a r =>
      rw [e] at hx
      have : atI (a :: r) 0 = some a := atI_zero
      rw [this] at hx
      exact hx
  unfold leadZ
  rw [hd]
  congr 1
  refine decide_eq_decide.mpr ⟨fun h => ?_, fun h => ?_⟩
  · cases h; decide +kernel
  · have e0 : Str.ofString "0" = ⟨#[48]⟩ := by decide +kernel
    rw [e0] at h
    simpa using h
def O_read_count (A : Addr) (ds : List PyData) (o : PyData ⊕ Addr) : Prop := ∃ z : Str, ds = [.str z] ∧ z.length ≤ 100 ∧ (((okZ z && !leadZ z) = true ∧ o = .inl (.int (valZ z))) ∨ ((okZ z && !leadZ z) = false ∧ o = .inr A))
theorem len_read_count {A : Addr} (ds : List PyData) (o : PyData ⊕ Addr) (h : O_read_count A ds o) : ds.length = 1 := by obtain ⟨_, rfl, _⟩ := h; rfl

abbrev N_read_count : List Str := ["text"]
theorem sc_read_count : FnScope N_read_count ["text"] (defScope s_read_count) := ⟨rfl, rfl, rfl, by decide +kernel, rfl, by decide +kernel, by decide +kernel⟩
theorem ok_read_count (D : Dfn K mg "read_count" s_read_count ["text"]) (T : Tb mg) (EX_ : EX K mg C_BookError C_NoOrder C_NoRoom C_NoRow C_NoName C_NoText) (CB : DL.BkC K C_Book) (c_all_in : Cl P w K mg base CX0 1 "all_in" (spF K R_all_in)) : Cl P w K mg base (L2.CX P w) 2 "read_count" (DL.spO K (O_read_count C_NoText)) := by
  refine cl_O (k := 1) D sc_read_count len_read_count fun f cdv A outer s H E hr => ⟨_, (pss_cons (ps_if (PW.pt (pw_or (pt_not (pt_val (DL.pe_cl c_all_in (hr.mono (by decide)) rfl pass0 (pa_cons (pv 0) (pa_cons (C8.pe_gc rfl T.s_FIGURES) (pa_cons pe_int pa_nil)))))) (pw_or1 (PW.pt (pw_and (pt_cmpR op_eq (pe_ix ix_str (pv 0) pe_int (fun _ _ => rfl)) pe_str (nomark _)) (pw_and1 (pt_cmpR op_ne (pv 0) pe_str (nomark _)))))))) (pss_one (DL.ps_raiseK EX_.e_NoText rfl (takes_of rfl rfl rfl rfl) rfl)) pss_nil)
      (pss_one (ps_ret (pe_callTy call_int_str rfl T.int_ (by decide +kernel) (pa_cons (pv 0) pa_nil))))), ?_⟩
  rintro Q c _ o ⟨z, rfl, hl, ho⟩ hQ
  show Go c c.H0 _ _ [_]
  have good : (okZ z && !leadZ z) = true → Rt c Q (.int (valZ z)) := fun h => by
    rcases ho with ⟨_, rfl⟩ | ⟨g, rfl⟩
    · exact hQ
    · rw [h] at g; cases g
  have bad : (okZ z && !leadZ z) = false → ∀ H', Ex c.H0 H' → E (.ref C_NoText) none H' := fun h => by
    rcases ho with ⟨g, rfl⟩ | ⟨_, rfl⟩
    · rw [h] at g; cases g
    · exact hQ
  have hA : R_all_in [.str z, .str figuresZ, .int 30] (.bool (okZ z)) := ⟨z, figuresZ, 30, rfl, hl, rfl⟩
  have hn : EvB c (tNot (tTest (tCall (spF K R_all_in) [] E0 (tCons (tVar 0) (tCons (tC (.str figuresZ)) (tCons (tC (.int 30)) tNil)))))) [.val false (.str z)] (!okZ z) := eb_not (eb_test (Ev.r (b := false) (ev_call (ds := [.str z, .str figuresZ, .int 30]) (ea_cons (er_var rfl) (ea_cons (show EvR _ _ _ (.str figuresZ) from Ev.r (b := false) ev_str) (ea_cons (by walk_at "dl") ea_nil))) hA)))
  by_cases ok : okZ z = true
  · obtain ⟨h1, h2, h3⟩ := ok_len ok
    obtain ⟨n, _, hx⟩ := atI_some (xs := z.cps.toList) (i := 0) (Int.le_refl _) (by rw [toL_len]; omega)
    have le := lead_is hx
    refine q_when (x := !okZ z || leadZ z) (eb_or hn fun _ => EvB.is (eb_and (eb_test (Ev.r (b := false) (ev_eqZ (Ev.r (b := false) (ev_ixS (er_var rfl) (by walk_at "dl") (by omega) hx)) (Ev.r (b := false) ev_str)))) fun _ => eb_test (Ev.r (b := false) (ev_neZ (er_var rfl) (Ev.r (b := false) ev_str)))) le.symm) (fun h => ?_) fun h => ?_
    · exact go_raise (bad (by rw [ok] at h ⊢; simpa using h))
    · exact go_ret (d := .int (valZ z)) (ev_intZ (er_var rfl) (ok_int ok) (by omega)) (good (by rw [ok] at h ⊢; simpa using h))
  · have ok : okZ z = false := by simpa using ok
    refine q_when (x := true) (EvB.is (x := !okZ z || true) (eb_or hn fun h => ?_) (by rw [ok]; rfl)) (fun _ => ?_) fun h => nomatch h
    · rw [ok] at h
      cases h
    · exact go_raise (bad (by rw [ok]; rfl))
abbrev N_end_for : List Str := ["works", "needs", "budget", "found", "steps", "end", "k"]
theorem sc_end_for : FnScope N_end_for ["works", "needs", "budget"] (defScope s_end_for) := ⟨rfl, rfl, rfl, by decide +kernel, rfl, by decide +kernel, by decide +kernel⟩
theorem ok_end_for (D : Dfn K mg "end_for" s_end_for ["works", "needs", "budget"]) (T : Tb mg) (EX_ : EX K mg C_BookError C_NoOrder C_NoRoom C_NoRow C_NoName C_NoText) (CB : DL.BkC K C_Book) (c_corners : Cl P w K mg base CX0 4 "corners" (fun _ _ _ _ => False)) (c_steps_between : Cl P w K mg base CX0 1 "steps_between" (fun _ _ _ _ => False)) : Cl P w K mg base CX0 5 "end_for" (fun _ _ _ _ => False) := cl_none D sc_end_for
abbrev N_best_end : List Str := ["works", "needs", "bonus", "found", "steps", "step"]
theorem sc_best_end : FnScope N_best_end ["works", "needs", "bonus"] (defScope s_best_end) := ⟨rfl, rfl, rfl, by decide +kernel, rfl, by decide +kernel, by decide +kernel⟩
theorem ok_best_end (D : Dfn K mg "best_end" s_best_end ["works", "needs", "bonus"]) (T : Tb mg) (EX_ : EX K mg C_BookError C_NoOrder C_NoRoom C_NoRow C_NoName C_NoText) (CB : DL.BkC K C_Book) (c_corners : Cl P w K mg base CX0 4 "corners" (fun _ _ _ _ => False)) (c_steps_between : Cl P w K mg base CX0 1 "steps_between" (fun _ _ _ _ => False)) : Cl P w K mg base CX0 5 "best_end" (fun _ _ _ _ => False) := cl_none D sc_best_end
abbrev N_best_sum : List Str := ["works", "needs", "bonus", "end", "price"]
theorem sc_best_sum : FnScope N_best_sum ["works", "needs", "bonus"] (defScope s_best_sum) := ⟨rfl, rfl, rfl, by decide +kernel, rfl, by decide +kernel, by decide +kernel⟩
theorem ok_best_sum (D : Dfn K mg "best_sum" s_best_sum ["works", "needs", "bonus"]) (T : Tb mg) (EX_ : EX K mg C_BookError C_NoOrder C_NoRoom C_NoRow C_NoName C_NoText) (CB : DL.BkC K C_Book) (c_corners : Cl P w K mg base CX0 4 "corners" (fun _ _ _ _ => False)) : Cl P w K mg base CX0 5 "best_sum" (fun _ _ _ _ => False) := cl_none D sc_best_sum
def R_is_said (ds : List PyData) (r : PyData) : Prop := ∃ ws : List Str, ds = [.list (ws.map PyData.str)] ∧ ws ≠ [] ∧ r = .bool (saidB ws)
theorem len_is_said (ds : List PyData) (r : PyData) (h : R_is_said ds r) : ds.length = 1 := by obtain ⟨_, rfl, _⟩ := h; rfl

abbrev N_is_said : List Str := ["words", "first"]
theorem sc_is_said : FnScope N_is_said ["words"] (defScope s_is_said) := ⟨rfl, rfl, rfl, by decide +kernel, rfl, by decide +kernel, by decide +kernel⟩
theorem ok_is_said (D : Dfn K mg "is_said" s_is_said ["words"]) (T : Tb mg) (EX_ : EX K mg C_BookError C_NoOrder C_NoRoom C_NoRow C_NoName C_NoText) (CB : DL.BkC K C_Book) : Cl P w K mg base CX0 1 "is_said" (spF K R_is_said) := by
  refine cl_F (k := 0) D sc_is_said len_is_said fun f cdv A outer s H E hr => ⟨_, (pss_cons (ps_set (i := 1) sc_is_said.nd rfl (Or.inl rfl) (pe_ix (DL.k_ix_list K) (pv 0) pe_int (fun _ _ => rfl)))
      (pss_cons (ps_if (pt_cmpR op_eq (pv 1) pe_str (nomark _)) (pss_one (ps_ret (pe_cmpR op_eq (pe_callB (DL.k_len_seq K) rfl T.len_ (by decide +kernel) (pa_cons (pv 0) pa_nil)) pe_int (nomark _)))) pss_nil)
      (pss_cons (ps_if (pt_cmpR (DL.k_in_seq K) (pv 1) (pe_tup (pa_cons pe_str (pa_cons pe_str pa_nil))) rfl) (pss_one (ps_ret (pe_cmpR op_eq (pe_callB (DL.k_len_seq K) rfl T.len_ (by decide +kernel) (pa_cons (pv 0) pa_nil)) pe_int (nomark _)))) pss_nil)
      (pss_cons (ps_if (pt_cmpR (DL.k_in_seq K) (pv 1) (pe_tup (pa_cons pe_str (pa_cons pe_str (pa_cons pe_str (pa_cons pe_str (pa_cons pe_str (pa_cons pe_str (pa_cons pe_str (pa_cons pe_str pa_nil))))))))) rfl) (pss_one (ps_ret (pe_cmpR op_eq (pe_callB (DL.k_len_seq K) rfl T.len_ (by decide +kernel) (pa_cons (pv 0) pa_nil)) pe_int (nomark _)))) pss_nil)
      (pss_one (ps_ret (pe_and (pe_cmpR (DL.k_in_seq K) (pv 1) (pe_tup (pa_cons pe_str (pa_cons pe_str (pa_cons pe_str pa_nil)))) rfl) (pe_one (pe_cmpR op_eq (pe_callB (DL.k_len_seq K) rfl T.len_ (by decide +kernel) (pa_cons (pv 0) pa_nil)) pe_int (nomark _)))))))))), ?_⟩
  rintro Q c _ _ ⟨ws, rfl, hne, rfl⟩ hQ
  show Go c c.H0 _ _ [_, Sl.no]
  obtain ⟨f, r, rfl⟩ : ∃ f r, ws = f :: r := by cases ws with
    | nil => exact absurd rfl hne
    | cons f r => exact ⟨f, r, rfl⟩
  have at0 : atI ((f :: r).map PyData.str) 0 = some (PyData.str f) := atI_zero
  have ln : ∀ {b : Bool} {ρ : Rho}, ρ[0]? = some (.val false (.list ((f :: r).map PyData.str))) → ∀ n : Int, Ev c b (tOp rEq (tCB (fun xs H Q => ∃ p ys, xs = [V.ref p] ∧ (SqL K H p ys ∨ SqT K H p ys) ∧ Q (.int ys.length) H) (tCons (tVar 0) tNil)) (tC (.int n))) ρ (.bool (decide (((r.length + 1 : Nat) : Int) = n))) := fun {b ρ} h n => Ev.is (ev_eqI (Ev.r (b := false) (ev_len (er_var h))) (Ev.r (b := false) ev_int)) (by rw [List.length_map, List.length_cons])
  refine q_val (b := false) (d := .str f) (ev_ix (ee_val rfl) (Ev.r (b := false) ev_int) at0) ?_
  walk_at "nm"
  have t4 : ∀ n m : Nat, decide (((n + 1 : Nat) : Int) = ((m + 1 : Nat) : Int)) = decide (n = m) := fun n m => by rw [decide_eq_decide]; omega
  refine q_when (x := decide (f = "work")) (eb_test (Ev.r (b := false) (ev_eqZ (er_var rfl) (Ev.r (b := false) ev_str)))) (fun h => ?_) fun h => ?_
  · refine go_ret (ln rfl 5) ?_
    have e : saidB (f :: r) = decide (((r.length + 1 : Nat) : Int) = 5) := by
      rw [show (5 : Int) = ((4 + 1 : Nat) : Int) from rfl, t4]
      rw [saidB_cons]
      rw [if_pos (of_decide_eq_true h)]
    rw [← e]
    exact hQ
  have n1 := of_decide_eq_false h
  refine q_when (x := decide (f ∈ (["need", "free"] : List Str))) (eb_test (Ev.r (b := false) (ev_inZT (er_var rfl) (Ev.r (b := false) (ev_tup (ds := (["need", "free"] : List Str).map PyData.str) (ef_cons ev_str (ef_cons ev_str ef_nil)) (by decide)))))) (fun h => ?_) fun h => ?_
  · refine go_ret (ln rfl 3) ?_
    have e : saidB (f :: r) = decide (((r.length + 1 : Nat) : Int) = 3) := by
      rw [show (3 : Int) = ((2 + 1 : Nat) : Int) from rfl, t4]
      rw [saidB_cons]
      rw [if_neg n1, if_pos (by simpa using of_decide_eq_true h)]
    rw [← e]
    exact hQ
  have n2 : ¬ (f = "need" ∨ f = "free") := by simpa using of_decide_eq_false h
  refine q_when (x := decide (f ∈ (["drop", "show", "price", "plan", "why", "spare", "budget", "bonus"] : List Str))) (eb_test (Ev.r (b := false) (ev_inZT (er_var rfl) (Ev.r (b := false) (ev_tup (ds := (["drop", "show", "price", "plan", "why", "spare", "budget", "bonus"] : List Str).map PyData.str) (ef_cons ev_str (ef_cons ev_str (ef_cons ev_str (ef_cons ev_str (ef_cons ev_str (ef_cons ev_str (ef_cons ev_str (ef_cons ev_str ef_nil)))))))) (by decide)))))) (fun h => ?_) fun h => ?_
  · refine go_ret (ln rfl 2) ?_
    have e : saidB (f :: r) = decide (((r.length + 1 : Nat) : Int) = 2) := by
      rw [show (2 : Int) = ((1 + 1 : Nat) : Int) from rfl, t4]
      rw [saidB_cons]
      rw [if_neg n1, if_neg n2, if_pos (of_decide_eq_true h)]
    rw [← e]
    exact hQ
  have n3 := of_decide_eq_false h
  refine go_ret (d := .bool (saidB (f :: r))) (Ev.is (d := .bool (decide (f ∈ (["names", "ends", "curve"] : List Str)) && decide (((r.length + 1 : Nat) : Int) = 1))) (ev_andV (Ev.r (b := false) (ev_inZT (er_var rfl) (Ev.r (b := false) (ev_tup (ds := (["names", "ends", "curve"] : List Str).map PyData.str) (ef_cons ev_str (ef_cons ev_str (ef_cons ev_str ef_nil))) (by decide))))) fun _ => Ev.r (b := false) (ln rfl 1)) ?_) hQ
  rw [show (1 : Int) = ((0 + 1 : Nat) : Int) from rfl, t4]
  rw [saidB_cons]
  rw [if_neg n1, if_neg n2, if_neg n3]
def NumOk (ns : List Int) : Prop := ns.length ≤ 1000 ∧ ∀ z ∈ ns, 0 ≤ z ∧ Sz 1900 z
theorem num_len {z : Int} (h : 0 ≤ z ∧ Sz 1900 z) : (numZ z).length ≤ 1900 := by
  obtain ⟨h0, h1⟩ := h
  refine (len_num (k := 1900) h0 (by decide) ?_).2
  have := h1.h
  have e : (2 : Nat) ^ 1900 ≤ 10 ^ 1900 := Nat.pow_le_pow_left (by decide) _
  have e2 : ((10 ^ 1900 : Nat) : Int) = (10 : Int) ^ 1900 := by simp
  rw [← e2]
  omega
def R_shown (ds : List PyData) (r : PyData) : Prop := ∃ ns : List Int, ds = [iL ns] ∧ NumOk ns ∧ r = .str (shownZ ns)
theorem len_shown (ds : List PyData) (r : PyData) (h : R_shown ds r) : ds.length = 1 := by obtain ⟨_, rfl, _⟩ := h; rfl

abbrev N_shown : List Str := ["numbers", "number"]
theorem sc_shown : FnScope N_shown ["numbers"] (defScope s_shown) := ⟨rfl, rfl, rfl, by decide +kernel, rfl, by decide +kernel, by decide +kernel⟩
theorem ok_shown (D : Dfn K mg "shown" s_shown ["numbers"]) (T : Tb mg) (EX_ : EX K mg C_BookError C_NoOrder C_NoRoom C_NoRow C_NoName C_NoText) (CB : DL.BkC K C_Book) : Cl P w K mg base CX0 1 "shown" (spF K R_shown) := by
  refine cl_F (k := 0) D sc_shown len_shown fun f cdv A outer s H E hr => ⟨_, (pss_one (ps_ret (DL.k_join K pe_str (pe_lc (own := [("number", 1)]) rfl sc_shown.nd (DL.k_pi_list K (pv 0)) (blkOk_by (N := N_shown) (sc := defScope s_shown) (by decide +kernel)) (fun _ _ _ _ _ => (pg_name (i := 1) sc_shown.nd rfl (by first | exact Or.inl rfl | exact Or.inr rfl))) (fun _ _ _ _ _ => pts_nil) (fun _ _ _ _ _ => (pe_callTy call_str_int rfl T.str_ (by decide +kernel) (pa_cons (pv 1) pa_nil))))))), ?_⟩
  rintro Q c _ _ ⟨ns, rfl, ⟨hl, hn⟩, rfl⟩ hQ
  show Go c c.H0 _ _ [_, Sl.no]
  refine go_ret (d := .str (shownZ ns)) (ev_joinB 1900 1000 (Ev.r (b := false) ev_str) (Ev.r (b := false) (Ev.is (d := .list (((ns.filter fun _ => true).map fun z => PyData.str (numZ z)))) (EvL.ev (el_lc (b0 := false) (xs := ns) (enc := PyData.int) (js := [1]) (fun _ => true) (fun z => .str (numZ z)) (ee_val rfl) (by omega) (by simp) fun z hz => ⟨_, tg_name, eb_yes, fun _ => ev_strI (er_var rfl) (Nat.lt_of_le_of_lt (hn z hz).2.log (by decide))⟩)) (by rw [lc_all, List.map_map]; rfl))) (by rw [List.length_map]; exact hl) (fun y hy => ?_) (by decide +kernel) (by decide)) hQ
  obtain ⟨z, hz, rfl⟩ := List.mem_map.mp hy
  exact num_len (hn z hz)
abbrev N_Book___init__ : List Str := ["self"]
theorem sc_Book___init__ : FnScope N_Book___init__ ["self"] (defScope s_Book___init__) := ⟨rfl, rfl, rfl, by decide +kernel, rfl, by decide +kernel, by decide +kernel⟩
theorem ok_Book___init__ {ff : Addr} {ffd : FuncData} (D : Fun K "__init__" "Book.__init__" s_Book___init__ ff ffd) (M : L2.Mk K C_Book ff) (hm : mg "Book" = some (.ref C_Book)) (b : Binds K ffd ["self"] []) (T : Tb mg) (EX_ : EX K mg C_BookError C_NoOrder C_NoRoom C_NoRow C_NoName C_NoText) (CB : DL.BkC K C_Book) : DL.ClI P w K mg base 1 "Book" C_Book := DL.ci_init (k := 0) D sc_Book___init__ rfl CB M hm b fun cdv A outer s H E hr => (pss_cons (ps_fld (pv 0) (pe_lst pa_nil) rfl)
      (pss_cons (ps_fld (pv 0) pe_dnewK rfl)
      (pss_one (ps_fld (pv 0) (pe_lst pa_nil) rfl))))
abbrev N_Book_listed : List Str := ["self", "name"]
theorem sc_Book_listed : FnScope N_Book_listed ["self"] (defScope s_Book_listed) := ⟨rfl, rfl, rfl, by decide +kernel, rfl, by decide +kernel, by decide +kernel⟩
theorem ok_Book_listed (D : DL.DfnM K C_Book "listed" "Book.listed" s_Book_listed ["self"]) (T : Tb mg) (EX_ : EX K mg C_BookError C_NoOrder C_NoRoom C_NoRow C_NoName C_NoText) (CB : DL.BkC K C_Book) : DL.ClM P w K mg base (L2.CX P w) 1 C_Book "listed" (DL.spM2 K C_Book [true] (P_Book_listed C_Book) R_Book_listed (X_never C_Book) RB_none) := by
  refine DL.cm_all (k := 0) D sc_Book_listed rfl (fun _ _ _ _ h => h.elim) fun f cdv A outer s H E hr => ⟨_, (pss_one (ps_ret (pe_lc (own := [("name", 1)]) rfl sc_Book_listed.nd (DL.k_pi_list K (DL.k_fld K (pv 0) rfl)) (blkOk_by (N := N_Book_listed) (sc := defScope s_Book_listed) (by decide +kernel)) (fun _ _ _ _ _ => (pg_name (i := 1) sc_Book_listed.nd rfl (by first | exact Or.inl rfl | exact Or.inr rfl))) (fun _ _ _ _ _ => pts_nil) (fun _ _ _ _ _ => (pe_dget (hu_of hr) (DL.k_fld K (pv 0) rfl) (pv 1) (fun _ _ => rfl)))))), ?_, fun _ _ _ _ h => h.elim, fun _ _ _ _ _ _ _ _ _ h => h.elim⟩
  rintro Q c _ ⟨B, rfl, ok⟩ hQ _
  show Go c c.H0 _ _ [_, Sl.no]
  have nd : (B.works.map (·.1)).Nodup := by rw [← ok.nm]; exact ok.nd
  refine go_ret (d := wL (B.works.map (·.2))) (Ev.is (d := .list ((B.names.filter fun _ => true).map fun x => match sval B.works x with | some w => wD w | none => .none)) (EvL.ev (el_lc (b0 := true) (xs := B.names) (enc := PyData.str) (js := [1]) (fun _ => true) _ (Ev.e (ev_names CB (ev_var rfl))) (by have := ok.le; omega) (by simp) fun x hx => ⟨_, tg_name, eb_yes, fun _ => ?_⟩)) ?_) (hQ _ fun C B' e => by
    injection e with e _
    rw [(bkD_inj e).2])
  · obtain ⟨w, hw⟩ := has_val ((has_mem ok).mpr hx)
    rw [hw]
    exact ev_sget (ev_works CB (ev_var rfl)) (er_var rfl) (sval_wkS hw)
  · rw [lc_all, ok.nm]
    show _ = PyData.list ((B.works.map (·.2)).map wD)
    rw [List.map_map, List.map_map]
    congr 1
    refine List.map_congr_left fun q hq => ?_
    show (match sval B.works q.1 with | some w => wD w | none => .none) = wD q.2
    rw [sval_self nd hq]
abbrev N_Book_needs : List Str := ["self", "one", "other"]
theorem sc_Book_needs : FnScope N_Book_needs ["self"] (defScope s_Book_needs) := ⟨rfl, rfl, rfl, by decide +kernel, rfl, by decide +kernel, by decide +kernel⟩
theorem ok_Book_needs (D : DL.DfnM K C_Book "needs" "Book.needs" s_Book_needs ["self"]) (T : Tb mg) (EX_ : EX K mg C_BookError C_NoOrder C_NoRoom C_NoRow C_NoName C_NoText) (CB : DL.BkC K C_Book) : DL.ClM P w K mg base (L2.CX P w) 1 C_Book "needs" (DL.spM2 K C_Book [true] (P_Book_needs C_Book) R_Book_needs (X_never C_Book) RB_none) := by
  refine DL.cm_all (k := 0) D sc_Book_needs rfl (fun _ _ _ _ h => h.elim) fun f cdv A outer s H E hr => ⟨_, (pss_one (ps_ret (pe_lc (own := [("one", 1), ("other", 2)]) rfl sc_Book_needs.nd (DL.k_pi_list K (DL.k_fld K (pv 0) rfl)) (blkOk_by (N := N_Book_needs) (sc := defScope s_Book_needs) (by decide +kernel)) (fun _ _ _ _ _ => (DL.k_pg_unl K (n := 2) rfl (pgs_cons (pg_name (i := 1) sc_Book_needs.nd rfl (by first | exact Or.inl rfl | exact Or.inr rfl)) (pgs_cons (pg_name (i := 2) sc_Book_needs.nd rfl (by first | exact Or.inl rfl | exact Or.inr rfl)) pgs_nil)))) (fun _ _ _ _ _ => pts_nil) (fun _ _ _ _ _ => (pe_lst (pa_cons (DL.k_bm K PySem.F.plainAttrs_list PySem.F.slot_list_index PySem.F.type_list_index (DL.k_index K) (DL.k_fld K (pv 0) rfl) (pa_cons (pv 1) pa_nil)) (pa_cons (DL.k_bm K PySem.F.plainAttrs_list PySem.F.slot_list_index PySem.F.type_list_index (DL.k_index K) (DL.k_fld K (pv 0) rfl) (pa_cons (pv 2) pa_nil)) pa_nil))))))), ?_, fun _ _ _ _ h => h.elim, fun _ _ _ _ _ _ _ _ _ h => h.elim⟩
  rintro Q c _ ⟨B, rfl, ok⟩ hQ _
  show Go c c.H0 _ _ [_, Sl.no, Sl.no]
  refine go_ret (d := pL (pIx B)) (Ev.is (d := .list ((B.pairs.filter fun _ => true).map fun p => pD (pI B.names p))) (EvL.ev (el_lc (b0 := true) (xs := B.pairs) (enc := prD) (js := [1, 2]) (fun _ => true) _ (Ev.e (ev_pairs CB (ev_var rfl))) (by have := ok.pl; omega) (by simp) fun x hx => ⟨_, (show TgOk _ _ _ _ _ (.list [.str x.1, .str x.2]) _ from tg_unl2), eb_yes, fun _ => ?_⟩)) ?_) (hQ _ fun C B' e => by
    injection e with e _
    rw [(bkD_inj e).2])
  · obtain ⟨h1, h2⟩ := ok.pr x hx
    exact EvL.ev (el_lst (ef_cons (ev_indexT (er_names CB (er_var rfl)) (er_var rfl) (idx_at h1).1 (idx_at h1).2) (ef_cons (ev_indexT (er_names CB (er_var rfl)) (er_var rfl) (idx_at h2).1 (idx_at h2).2) ef_nil)) (Nat.le_of_ble_eq_true rfl))
  · rw [lc_all]
    show _ = PyData.list ((B.pairs.map (pI B.names)).map pD)
    rw [List.map_map]
    rfl
abbrev N_Book_standing : List Str := ["self", "name"]
theorem sc_Book_standing : FnScope N_Book_standing ["self", "name"] (defScope s_Book_standing) := ⟨rfl, rfl, rfl, by decide +kernel, rfl, by decide +kernel, by decide +kernel⟩
theorem ok_Book_standing (D : DL.DfnM K C_Book "standing" "Book.standing" s_Book_standing ["self", "name"]) (T : Tb mg) (EX_ : EX K mg C_BookError C_NoOrder C_NoRoom C_NoRow C_NoName C_NoText) (CB : DL.BkC K C_Book) : DL.ClM P w K mg base (L2.CX P w) 1 C_Book "standing" (DL.spM2 K C_Book [true, false] (P_Book_standing C_Book) R_Book_standing (X_Book_standing C_Book C_NoOrder C_NoRoom C_NoRow C_NoName C_NoText) RB_none) := by
  refine DL.cm_all (k := 0) D sc_Book_standing rfl (fun _ _ _ _ h => h.elim) fun f cdv A outer s H E hr => ⟨_, (pss_cons (ps_if (pt_cmp (pc_dnotin (hu_of hr) (pv 1) (DL.k_fld K (pv 0) rfl))) (pss_one (DL.ps_raiseK EX_.e_NoName rfl (takes_of rfl rfl rfl rfl) rfl)) pss_nil)
      (pss_one (ps_ret (pv 1)))), ?_, ?_, fun _ _ _ _ _ _ _ _ _ h => h.elim⟩
  · rintro Q c _ ⟨B, x, rfl, hx⟩ hQ _
    show Go c c.H0 _ _ [_, _]
    refine q_when (x := !(sval (wkD B.works) x).isSome) (eb_test (Ev.r (b := false) (ev_snotin (er_var rfl) (er_works CB (er_var rfl))))) (fun h => ?_) fun h => ?_
    · exact absurd h (by rw [sval_wk, show (sval B.works x).isSome = true from hx]; decide)
    · exact go_ret (d := .str x) (by walk_at "dl") (hQ _ fun C B' y e => by
        injection e with _ e
        injection e with e _)
  · rintro Q c _ Ce ⟨B, x, rfl, hx, rfl⟩ hE _
    show Go c c.H0 _ _ [_, _]
    refine q_when (x := !(sval (wkD B.works) x).isSome) (eb_test (Ev.r (b := false) (ev_snotin (er_var rfl) (er_works CB (er_var rfl))))) (fun h => ?_) fun h => ?_
    · exact go_raise hE
    · exact absurd h (by rw [sval_wk, show (sval B.works x).isSome = false from hx]; decide)
theorem lenB_Book_put_work (B : Bk) (ds : List PyData) (r : PyData) (B' : Bk) (h : RB_Book_put_work B ds r B') : ds.length + 1 = 2 := by obtain ⟨_, _, _, _, rfl, _⟩ := h; rfl
/-- the first of three that is no number -/
theorem first_bad {u l p : Str} (h : (okN u && (okN l && okN p)) = false) : ∃ j, j < 3 ∧ ∀ (k : Nat) (z : Str), [u, l, p][k]? = some z → k ≤ j → (k < j → okN z = true) ∧ (k = j → okN z = false) := by
  by_cases h1 : okN u = true
  · by_cases h2 : okN l = true
    · have h3 : okN p = false := by rw [h1, h2] at h; simpa using h
      refine ⟨2, by decide, fun k z hz hk => ?_⟩
      match k, hz, hk with
      | 0, hz, _ => cases hz; exact ⟨fun _ => h1, fun e => absurd e (by decide)⟩
      | 1, hz, _ => cases hz; exact ⟨fun _ => h2, fun e => absurd e (by decide)⟩
      | 2, hz, _ => cases hz; exact ⟨fun e => absurd e (by decide), fun _ => h3⟩
      | k + 3, hz, hk => omega
    · have h2 : okN l = false := by simpa using h2
      refine ⟨1, by decide, fun k z hz hk => ?_⟩
      match k, hz, hk with
      | 0, hz, _ => cases hz; exact ⟨fun _ => h1, fun e => absurd e (by decide)⟩
      | 1, hz, _ => cases hz; exact ⟨fun e => absurd e (by decide), fun _ => h2⟩
      | k + 2, hz, hk => omega
  · have h1 : okN u = false := by simpa using h1
    refine ⟨0, by decide, fun k z hz hk => ?_⟩
    have : k = 0 := by omega
    subst this
    cases hz
    exact ⟨fun e => absurd e (by decide), fun _ => h1⟩

abbrev N_Book_put_work : List Str := ["self", "words", "name", "work", "word"]
theorem sc_Book_put_work : FnScope N_Book_put_work ["self", "words"] (defScope s_Book_put_work) := ⟨rfl, rfl, rfl, by decide +kernel, rfl, by decide +kernel, by decide +kernel⟩
theorem ok_Book_put_work (D : DL.DfnM K C_Book "put_work" "Book.put_work" s_Book_put_work ["self", "words"]) (T : Tb mg) (EX_ : EX K mg C_BookError C_NoOrder C_NoRoom C_NoRow C_NoName C_NoText) (CB : DL.BkC K C_Book) (c_is_name : Cl P w K mg base CX0 2 "is_name" (spF K R_is_name)) (c_read_count : Cl P w K mg base (L2.CX P w) 2 "read_count" (DL.spO K (O_read_count C_NoText))) : DL.ClM P w K mg base (L2.CX P w) 3 C_Book "put_work" (DL.spM2 K C_Book [true, false] (P_never C_Book) R_never (X_Book_put_work C_Book C_NoOrder C_NoRoom C_NoRow C_NoName C_NoText) RB_Book_put_work) := by
  refine DL.cm_all (k := 2) D sc_Book_put_work rfl lenB_Book_put_work fun f cdv A outer s H E hr => ⟨_, (pss_cons (ps_set (i := 2) sc_Book_put_work.nd rfl (Or.inl rfl) (pe_ix (DL.k_ix_list K) (pv 1) pe_int (fun _ _ => rfl)))
      (pss_cons (ps_if (pt_not (pt_val (DL.pe_cl c_is_name (hr.mono (by decide)) rfl pass0 (pa_cons (pv 2) pa_nil)))) (pss_one (DL.ps_raiseK EX_.e_NoName rfl (takes_of rfl rfl rfl rfl) rfl)) pss_nil)
      (pss_cons (DL.ps_setLcE (i := 3) (takes_of rfl rfl rfl rfl) (fun _ _ _ _ h => h) rfl rfl rfl sc_Book_put_work.nd rfl rfl (sw_true rfl rfl rfl (by decide +kernel)) (own := [("word", 4)]) (DL.k_pi_list K (pe_slice (DL.k_sl_list K) (pv 1) (po_some pe_int) po_none)) (blkOk_by (N := N_Book_put_work) (sc := defScope s_Book_put_work) (by decide +kernel)) (fun _ _ _ _ _ => (pg_name (i := 4) sc_Book_put_work.nd rfl (by first | exact Or.inl rfl | exact Or.inr rfl))) (fun _ _ _ _ _ => pts_nil) (fun _ _ _ _ _ => (DL.pe_cl c_read_count (hr.mono (by decide)) rfl DL.passE (pa_cons (pv 4) pa_nil))))
      (pss_cons (ps_if (pt_cmpR op_lt (pe_ix (DL.k_ix_list K) (pv 3) pe_int (fun _ _ => rfl)) (pe_ix (DL.k_ix_list K) (pv 3) pe_int (fun _ _ => rfl)) (nomark _)) (pss_one (DL.ps_raiseK EX_.e_NoText rfl (takes_of rfl rfl rfl rfl) rfl)) pss_nil)
      (Evl.pss_cut (ps_if (pt_cmp (pc_dnotin (hu_of hr) (pv 2) (DL.k_fld K (pv 0) rfl))) (pss_cons (ps_if (pt_cmpR op_eq (pe_callB (DL.k_len_seq K) rfl T.len_ (by decide +kernel) (pa_cons (DL.k_fld K (pv 0) rfl) pa_nil)) (C8.pe_gc rfl T.s_MOST) (nomark _)) (pss_one (DL.ps_raiseK EX_.e_NoRoom rfl (takes_of rfl rfl rfl rfl) rfl)) pss_nil)
      (pss_one (ps_expr (DL.k_bm K PySem.F.plainAttrs_list PySem.F.slot_list_append PySem.F.type_list_append mt_append (DL.k_fld K (pv 0) rfl) (pa_cons (pv 2) pa_nil))))) pss_nil)
      (pss_one (ps_dput (hu_of hr) (DL.k_fld K (pv 0) rfl) (pv 2) (pv 3) rfl))))))), fun _ _ _ h => h.elim, ?_, ?_⟩
  · rintro Q c _ Ce ⟨B, f, n, u, l, p, e, rfl, ok, sm, er, rfl⟩ hE _
    show Go c c.H0 _ _ [_, _, Sl.no, Sl.no, Sl.no]
    have sz : ∀ w ∈ ([f, n, u, l, p] : List Str), w.length ≤ 100 := sm.2
    have at1 : atI (([f, n, u, l, p] : List Str).map PyData.str) 1 = some (PyData.str n) := atI_one
    refine q_val (b := false) (d := .str n) (ev_ix (ee_val rfl) (Ev.r (b := false) ev_int) at1) ?_
    walk_at "nm"
    have hN : R_is_name [.str n] (.bool (nameZ n)) := ⟨n, rfl, sz n (by simp), rfl⟩
    have test : ∀ {ρ : Rho}, ρ[2]? = some (.val false (.str n)) → EvB c (tNot (tB (tCall (spF K R_is_name) [] E0 (tCons (tVar 2) tNil)))) ρ (!nameZ n) := fun h => eb_not (eb_B (Ev.r (b := false) (ev_call (ds := [.str n]) (ea_cons (er_var h) ea_nil) hN)))
    have cut : cutL (([f, n, u, l, p] : List Str).map PyData.str) (some 2) none = ([u, l, p] : List Str).map PyData.str := by
      have := cutL_from (([f, n, u, l, p] : List Str).map PyData.str) 2
      exact this
    have src : ∀ {ρ : Rho}, ρ[1]? = some (.val false (.list (([f, n, u, l, p] : List Str).map PyData.str))) → EvE c false (tSl (rSlL K) (tVar 1) (tPart (tC (.int 2))) tNoPart) ρ (([u, l, p] : List Str).map PyData.str) := fun h => EvE.is (EvL.e (el_sl (ee_val h) (eo_some (Ev.r (b := false) ev_int)) eo_none)) cut
    have sz3 : ∀ z ∈ ([u, l, p] : List Str), z.length ≤ 100 := fun z hz => sz z (List.mem_cons_of_mem _ (List.mem_cons_of_mem _ hz))
    have good : ∀ {ρ : Rho} {z : Str} {b : Bool}, ρ[4]? = some (.val false (.str z)) → z.length ≤ 100 → okN z = true → Ev c b (tCall (spO K (O_read_count C_NoText)) [] E (tCons (tVar 4) tNil)) ρ (.int (valZ z)) := fun {ρ z b} h hl hz => ev_callO (ds := [.str z]) (ea_cons (er_var h) ea_nil) ⟨z, rfl, hl, .inl ⟨hz, rfl⟩⟩
    -- the numbers read
    have reads : okN u = true → okN l = true → okN p = true → ∀ {ρ : Rho}, ρ.length = 5 → ρ[1]? = some (.val false (.list (([f, n, u, l, p] : List Str).map PyData.str))) → Ev c false (tLc (iList K (tSl (rSlL K) (tVar 1) (tPart (tC (.int 2))) tNoPart)) (gName 4) tYes (tCall (spO K (O_read_count C_NoText)) [] E (tCons (tVar 4) tNil)) [4]) ρ (.list [.int (valZ u), .int (valZ l), .int (valZ p)]) := fun h1 h2 h3 {ρ} hl h => Ev.is (EvL.ev (el_lc (b0 := false) (xs := [u, l, p]) (enc := PyData.str) (js := [4]) (fun _ => true) (fun z => .int (valZ z)) (src h) (Nat.le_of_ble_eq_true rfl) (by simp) fun z hz => ⟨_, tg_name, eb_yes, fun _ => good (List.getElem?_set_self (by simp [wipeR]; omega)) (sz3 z hz) (by simp at hz; rcases hz with rfl | rfl | rfl <;> assumption)⟩)) (by rw [lc_all]; rfl)
    cases er with
    | name h => exact q_when (x := !nameZ n) (test rfl) (fun _ => go_raise hE) fun g => by rw [h] at g; cases g
    | text h1 h2 =>
      refine q_when (x := !nameZ n) (test rfl) (fun g => by rw [h1] at g; cases g) fun _ => ?_
      obtain ⟨j, hj, hb⟩ := first_bad h2
      refine z_seq fun D => z_lc (b := false) (b0 := false) (xs := [u, l, p]) (enc := PyData.str) (js := [4]) j (fun z => .int (valZ z)) hj (src rfl) (Nat.le_of_ble_eq_true rfl) (by simp) fun k z hz hk => ⟨_, tg_name, fun q => good (List.getElem?_set_self (by simp [wipeR])) (sz3 z (List.mem_of_getElem? hz)) ((hb k z hz hk).1 q), fun q => ez_callO (ds := [.str z]) (ea_cons (er_var (List.getElem?_set_self (by simp [wipeR]))) ea_nil) ⟨z, rfl, sz3 z (List.mem_of_getElem? hz), .inr ⟨(hb k z hz hk).2 q, rfl⟩⟩ hE⟩
    | less h1 h2 h3 h4 h5 =>
      refine q_when (x := !nameZ n) (test rfl) (fun g => by rw [h1] at g; cases g) fun _ => ?_
      refine q_val (b := false) (reads h2 h3 h4 rfl rfl) ?_
      walk_at "nm"
      exact q_when (x := decide (valZ u < valZ l)) (by walk_at "dl") (fun _ => go_raise hE) fun g => absurd h5 (of_decide_eq_false g)
    | room h1 h2 h3 h4 h5 h6 h7 =>
      refine q_when (x := !nameZ n) (test rfl) (fun g => by rw [h1] at g; cases g) fun _ => ?_
      refine q_val (b := false) (reads h2 h3 h4 rfl rfl) ?_
      walk_at "nm"
      refine q_when (x := decide (valZ u < valZ l)) (by walk_at "dl") (fun g => absurd (of_decide_eq_true g) (by omega)) fun _ => ?_
      refine q_cut (fun _ => False) (go_if (x := !(sval (wkD B.works) n).isSome) (eb_B (Ev.r (b := false) (ev_snotin (er_var rfl) (er_works CB (er_var rfl))))) (fun _ => ?_) fun g => absurd g (by rw [sval_wk, show (sval B.works n).isSome = false from h6]; decide)) fun _ h => h.elim
      refine q_when (x := decide (((B.names.map PyData.str).length : Int) = 8)) (eb_test (Ev.r (b := false) (ev_eqI (Ev.r (b := false) (ev_len (er_names CB (er_var rfl)))) (Ev.r (b := false) ev_int)))) (fun _ => go_raise hE) fun g => absurd (of_decide_eq_false g) (by rw [List.length_map, h7]; decide)
  · rintro Q c a A B _ r B' hc ⟨n, u, l, p, rfl, ok, sm, rfl, ch⟩ hs hQ
    show Go c c.H0 _ _ [_, _, Sl.no, Sl.no, Sl.no]
    have sz : ∀ w ∈ (["work", n, u, l, p] : List Str), w.length ≤ 100 := sm.2
    have at1 : atI ((["work", n, u, l, p] : List Str).map PyData.str) 1 = some (PyData.str n) := atI_one
    refine q_val (b := true) (d := .str n) (ev_ix (ee_val rfl) (Ev.r (b := false) ev_int) at1) ?_
    walk_at "nm"
    have hN : R_is_name [.str n] (.bool (nameZ n)) := ⟨n, rfl, sz n (by simp), rfl⟩
    have cut : cutL ((["work", n, u, l, p] : List Str).map PyData.str) (some 2) none = ([u, l, p] : List Str).map PyData.str := by
      have := cutL_from ((["work", n, u, l, p] : List Str).map PyData.str) 2
      exact this
    have sz3 : ∀ z ∈ ([u, l, p] : List Str), z.length ≤ 100 := fun z hz => sz z (List.mem_cons_of_mem _ (List.mem_cons_of_mem _ hz))
    generalize ew : (["work", n, u, l, p] : List Str) = ws at ch cut sz
    cases ch with
    | need => cases ew
    | free => cases ew
    | drop => cases ew
    | work h1 h2 h3 h4 h5 h6 =>
    injection ew with _ ew
    injection ew with e1 ew
    injection ew with e2 ew
    injection ew with e3 ew
    injection ew with e4 _
    subst e1 e2 e3 e4
    refine q_when (x := !nameZ n) (eb_not (eb_B (Ev.r (b := false) (ev_call (ds := [.str n]) (ea_cons (er_var rfl) ea_nil) hN)))) (fun g => by rw [h1] at g; cases g) fun _ => ?_
    refine q_val (b := true) (d := wD (valZ u, valZ l, valZ p)) (Ev.is (EvL.ev (el_lc (b0 := true) (xs := [u, l, p]) (enc := PyData.str) (js := [4]) (fun _ => true) (fun z => .int (valZ z)) (EvE.is (EvL.e (el_sl (ee_val rfl) (eo_some (Ev.r (b := false) ev_int)) eo_none)) cut) (Nat.le_of_ble_eq_true rfl) (by simp) fun z hz => ⟨_, tg_name, eb_yes, fun _ => ev_callO (ds := [.str z]) (ea_cons (er_var (List.getElem?_set_self (by simp [wipeR]))) ea_nil) ⟨z, rfl, sz3 z hz, .inl ⟨by simp at hz; rcases hz with rfl | rfl | rfl <;> assumption, rfl⟩⟩⟩)) (by rw [lc_all]; rfl)) ?_
    walk_at "nm"
    refine q_when (x := decide (valZ u < valZ l)) (by walk_at "dl") (fun g => absurd (of_decide_eq_true g) (by omega)) fun _ => ?_
    refine q_cut (fun ρ => ∃ A', Grow a A A' ∧ Le [.bk C_Book a A' { B with names := if hasB B n = true then B.names else B.names ++ [n] }, .no, .val true (.str n), .val true (wD (valZ u, valZ l, valZ p)), .no] ρ) ?_ ?_
    · refine go_if (x := !(sval (wkD B.works) n).isSome) (eb_B (Ev.r (b := false) (ev_snotin (er_var rfl) (er_works CB (er_book rfl))))) (fun g => ?_) fun g => ?_
      · have g : hasB B n = false := by rw [sval_wk] at g; simpa [hasB] using g
        rw [g, if_neg (by decide)]
        refine q_when (x := decide (((B.names.map PyData.str).length : Int) = 8)) (eb_test (Ev.r (b := false) (ev_eqI (Ev.r (b := false) (ev_len (er_names CB (er_book rfl)))) (Ev.r (b := false) ev_int)))) (fun q => ?_) fun _ => ?_
        · have q := of_decide_eq_true q
          rw [List.length_map] at q
          rcases h6 with h6 | h6
          · rw [g] at h6; cases h6
          · omega
        · exact go_appNames (b := true) CB rfl (ev_var rfl) (by have := ok.le; omega) (nx_pst ⟨A, Grow.refl A, (by walk_at "le")⟩)
      · have g : hasB B n = true := by rw [sval_wk] at g; simpa [hasB] using g
        rw [g, if_pos rfl]
        exact nx_pst ⟨A, Grow.refl A, (by walk_at "le")⟩
    · rintro ρ1 ⟨A', g, l⟩
      refine go_weak l (go_putWorks CB rfl (ev_var rfl) (er_var rfl) ?_ (nx_retBk rfl g rfl hQ))
      have := ok.le
      rw [ok.nm, List.length_map] at this
      show B.works.length < 100000
      omega
theorem lenB_Book_put_need (B : Bk) (ds : List PyData) (r : PyData) (B' : Bk) (h : RB_Book_put_need B ds r B') : ds.length + 1 = 3 := by obtain ⟨_, _, rfl, _⟩ := h; rfl
theorem need_len {B : Bk} (ok : BkOk B) : ((pIx B).map pD).length + ([PyData.list [.int 0, .int 0]] : List PyData).length ≤ 100000 := by
  unfold pIx
  rw [List.length_map, List.length_map]
  have := ok.pl
  show _ + 1 ≤ _
  omega

abbrev N_Book_put_need : List Str := ["self", "one", "other", "pair"]
theorem sc_Book_put_need : FnScope N_Book_put_need ["self", "one", "other"] (defScope s_Book_put_need) := ⟨rfl, rfl, rfl, by decide +kernel, rfl, by decide +kernel, by decide +kernel⟩
theorem ok_Book_put_need (D : DL.DfnM K C_Book "put_need" "Book.put_need" s_Book_put_need ["self", "one", "other"]) (T : Tb mg) (EX_ : EX K mg C_BookError C_NoOrder C_NoRoom C_NoRow C_NoName C_NoText) (CB : DL.BkC K C_Book) (c_Book_standing : DL.ClM P w K mg base (L2.CX P w) 1 C_Book "standing" (DL.spM2 K C_Book [true, false] (P_Book_standing C_Book) R_Book_standing (X_Book_standing C_Book C_NoOrder C_NoRoom C_NoRow C_NoName C_NoText) RB_none)) (c_order_of : Cl P w K mg base (L2.CX P w) 2 "order_of" (DL.spO K (O_order_of C_NoOrder))) (c_Book_needs : DL.ClM P w K mg base (L2.CX P w) 1 C_Book "needs" (DL.spM2 K C_Book [true] (P_Book_needs C_Book) R_Book_needs (X_never C_Book) RB_none)) : DL.ClM P w K mg base (L2.CX P w) 3 C_Book "put_need" (DL.spM2 K C_Book [true, false, false] (P_never C_Book) R_never (X_Book_put_need C_Book C_NoOrder C_NoRoom C_NoRow C_NoName C_NoText) RB_Book_put_need) := by
  refine DL.cm_all (k := 2) D sc_Book_put_need rfl lenB_Book_put_need fun f cdv A outer s H E hr => ⟨_, (pss_cons (ps_set (i := 1) sc_Book_put_need.nd rfl (Or.inl rfl) (DL.pe_m c_Book_standing (hr.mono (by decide)) (passes_call (takes_of rfl rfl rfl rfl) (fun _ _ _ _ h => h)) (pv 0) (pa_cons (pv 1) pa_nil)))
      (pss_cons (ps_set (i := 2) sc_Book_put_need.nd rfl (Or.inl rfl) (DL.pe_m c_Book_standing (hr.mono (by decide)) (passes_call (takes_of rfl rfl rfl rfl) (fun _ _ _ _ h => h)) (pv 0) (pa_cons (pv 2) pa_nil)))
      (pss_cons (ps_set (i := 3) sc_Book_put_need.nd rfl (Or.inl rfl) (pe_lst (pa_cons (DL.k_bm K PySem.F.plainAttrs_list PySem.F.slot_list_index PySem.F.type_list_index (DL.k_index K) (DL.k_fld K (pv 0) rfl) (pa_cons (pv 1) pa_nil)) (pa_cons (DL.k_bm K PySem.F.plainAttrs_list PySem.F.slot_list_index PySem.F.type_list_index (DL.k_index K) (DL.k_fld K (pv 0) rfl) (pa_cons (pv 2) pa_nil)) pa_nil))))
      (pss_cons (ps_expr (DL.pe_cl c_order_of (hr.mono (by decide)) rfl (passes_call (takes_of rfl rfl rfl rfl) (fun _ _ _ _ h => h)) (pa_cons (pe_callB (DL.k_len_seq K) rfl T.len_ (by decide +kernel) (pa_cons (DL.k_fld K (pv 0) rfl) pa_nil)) (pa_cons (pe_op DL.op_catR (DL.pe_m0 c_Book_needs (hr.mono (by decide)) (passes_call (takes_of rfl rfl rfl rfl) (fun _ _ _ _ h => h)) (pv 0)) (pe_lst (pa_cons (pv 3) pa_nil))) pa_nil))))
      (pss_one (ps_if (pt_cmpR (DL.k_ninD K (DL.hu65 hr)) (pe_lst (pa_cons (pv 1) (pa_cons (pv 2) pa_nil))) (DL.k_fld K (pv 0) rfl) rfl) (pss_one (ps_expr (DL.k_bm K PySem.F.plainAttrs_list PySem.F.slot_list_append PySem.F.type_list_append mt_append (DL.k_fld K (pv 0) rfl) (pa_cons (pe_lst (pa_cons (pv 1) (pa_cons (pv 2) pa_nil))) pa_nil)))) pss_nil)))))), fun _ _ _ h => h.elim, ?_, ?_⟩
  · rintro Q c _ Ce ⟨B, a, b, e, rfl, ok, er, rfl⟩ hE _
    show Go c c.H0 _ _ [_, _, _, Sl.no]
    cases er with
    | name h =>
      by_cases ha : hasB B a = true
      · have hb : hasB B b = false := by rw [ha] at h; simpa using h
        refine q_val (b := true) (ev_standing (ev_var rfl) (er_var rfl) ha) ?_
        walk_at "nm"
        exact zq_asg (ez_standing (ev_var rfl) (er_var rfl) hb hE)
      · exact zq_asg (ez_standing (ev_var rfl) (er_var rfl) (by simpa using ha) hE)
    | order ha hb hd =>
      refine q_val (b := true) (ev_standing (ev_var rfl) (er_var rfl) ha) ?_
      walk_at "nm"
      refine q_val (b := true) (ev_standing (ev_var rfl) (er_var rfl) hb) ?_
      walk_at "nm"
      have ma := (has_mem ok).mp ha
      have mb := (has_mem ok).mp hb
      refine q_val (b := true) (d := pD (pI B.names (a, b))) (EvL.ev (el_lst (ef_cons (ev_indexT (er_names CB (er_var rfl)) (er_var rfl) (idx_at ma).1 (idx_at ma).2) (ef_cons (ev_indexT (er_names CB (er_var rfl)) (er_var rfl) (idx_at mb).1 (idx_at mb).2) ef_nil)) (Nat.le_of_ble_eq_true rfl))) ?_
      walk_at "nm"
      refine zq_drop (ez_callO (ds := [.int ((B.names.length : Nat) : Int), pL (NeedIn B a b)]) (ea_cons (Ev.r (b := false) (Ev.is (ev_len (er_names CB (er_var rfl))) (by rw [List.length_map]))) (ea_cons (Ev.r (b := true) (Ev.is (EvL.ev (el_cat (Ev.t (ev_needs (ev_var rfl) ok)) (EvL.t (el_lst (ef_cons (ev_var rfl) ef_nil) (Nat.le_of_ble_eq_true rfl))) (need_len ok))) (by unfold NeedIn; show _ = PyData.list ((pIx B ++ [_]).map pD); rw [List.map_append]; rfl))) ea_nil)) ⟨_, _, rfl, by have := ok.le; omega, .inr ⟨hd, rfl⟩⟩ hE)
  · rintro Q c a0 A B _ r B' hc ⟨a, b, rfl, ok, rfl, ch⟩ hs hQ
    show Go c c.H0 _ _ [_, _, _, Sl.no]
    obtain ⟨ha, hb, hd, hp, rfl⟩ := ch.need_inv
    refine q_val (b := true) (eo_standing rfl (er_var rfl) ha) ?_
    walk_at "nm"
    refine q_val (b := true) (eo_standing rfl (er_var rfl) hb) ?_
    walk_at "nm"
    have ma := (has_mem ok).mp ha
    have mb := (has_mem ok).mp hb
    refine q_val (b := true) (d := pD (pI B.names (a, b))) (EvL.ev (el_lst (ef_cons (ev_indexT (er_names CB (er_book rfl)) (er_var rfl) (idx_at ma).1 (idx_at ma).2) (ef_cons (ev_indexT (er_names CB (er_book rfl)) (er_var rfl) (idx_at mb).1 (idx_at mb).2) ef_nil)) (Nat.le_of_ble_eq_true rfl))) ?_
    walk_at "nm"
    obtain ⟨os, ho⟩ := MQ.Dag.isOrd hd
    refine q_drop (b := false) (ev_callO (ds := [.int ((B.names.length : Nat) : Int), pL (NeedIn B a b)]) (ea_cons (Ev.r (b := false) (Ev.is (ev_len (er_names CB (er_book rfl))) (by rw [List.length_map]))) (ea_cons (er_needPlus rfl rfl ok) ea_nil)) ⟨_, _, rfl, by have := ok.le; omega, .inl ⟨os, ho, rfl⟩⟩) ?_
    have na := ok.nz a ma
    have nb := ok.nz b mb
    refine go_when (x := !decide ((a, b) ∈ B.pairs)) (eb_test (Ev.r (b := false) (Ev.is (ev_niD (d := DL.prD (a, b)) (ds := B.pairs.map DL.prD) (Ev.r (b := true) (EvL.ev (el_lst (ef_cons (ev_var rfl) (ef_cons (ev_var rfl) ef_nil)) (Nat.le_of_ble_eq_true rfl)))) (er_pairs CB (er_book rfl)) ((nice_prD (p := (a, b)) na nb).shaped (by decide)) ((pairs_nice ok).shaped (by decide))) (by rw [pairs_any ok (x := (a, b)) na nb])))) (fun h => ?_) fun h => ?_
    · have h : (a, b) ∉ B.pairs := by simpa using h
      refine go_appPairs (pr := (a, b)) CB rfl (EvL.ev (el_lst (ef_cons (ev_var rfl) (ef_cons (ev_var rfl) ef_nil)) (Nat.le_of_ble_eq_true rfl))) (by omega) ?_
      refine nx_retBk rfl (Grow.refl A) rfl ?_
      unfold pnDo at hQ
      rw [if_neg h] at hQ
      exact hQ
    · have h : (a, b) ∈ B.pairs := by simpa using h
      refine nx_retBk rfl (Grow.refl A) rfl ?_
      unfold pnDo at hQ
      rw [if_pos h] at hQ
      exact hQ
theorem lenB_Book_free_need (B : Bk) (ds : List PyData) (r : PyData) (B' : Bk) (h : RB_Book_free_need B ds r B') : ds.length + 1 = 3 := by obtain ⟨_, _, rfl, _⟩ := h; rfl

abbrev N_Book_free_need : List Str := ["self", "one", "other", "pair", "kept"]
theorem sc_Book_free_need : FnScope N_Book_free_need ["self", "one", "other"] (defScope s_Book_free_need) := ⟨rfl, rfl, rfl, by decide +kernel, rfl, by decide +kernel, by decide +kernel⟩
theorem ok_Book_free_need (D : DL.DfnM K C_Book "free_need" "Book.free_need" s_Book_free_need ["self", "one", "other"]) (T : Tb mg) (EX_ : EX K mg C_BookError C_NoOrder C_NoRoom C_NoRow C_NoName C_NoText) (CB : DL.BkC K C_Book) (c_Book_standing : DL.ClM P w K mg base (L2.CX P w) 1 C_Book "standing" (DL.spM2 K C_Book [true, false] (P_Book_standing C_Book) R_Book_standing (X_Book_standing C_Book C_NoOrder C_NoRoom C_NoRow C_NoName C_NoText) RB_none)) : DL.ClM P w K mg base (L2.CX P w) 2 C_Book "free_need" (DL.spM2 K C_Book [true, false, false] (P_never C_Book) R_never (X_Book_free_need C_Book C_NoOrder C_NoRoom C_NoRow C_NoName C_NoText) RB_Book_free_need) := by
  refine DL.cm_all (k := 1) D sc_Book_free_need rfl lenB_Book_free_need fun f cdv A outer s H E hr => ⟨_, (pss_cons (ps_set (i := 3) sc_Book_free_need.nd rfl (Or.inr rfl) (pe_lst (pa_cons (DL.pe_m c_Book_standing (hr.mono (by decide)) (passes_call (takes_of rfl rfl rfl rfl) (fun _ _ _ _ h => h)) (pv 0) (pa_cons (pv 1) pa_nil)) (pa_cons (DL.pe_m c_Book_standing (hr.mono (by decide)) (passes_call (takes_of rfl rfl rfl rfl) (fun _ _ _ _ h => h)) (pv 0) (pa_cons (pv 2) pa_nil)) pa_nil))))
      (pss_one (ps_fld (pv 0) (pe_lc (own := [("kept", 4)]) rfl sc_Book_free_need.nd (DL.k_pi_list K (DL.k_fld K (pv 0) rfl)) (blkOk_by (N := N_Book_free_need) (sc := defScope s_Book_free_need) (by decide +kernel)) (fun _ _ _ _ _ => (pg_name (i := 4) sc_Book_free_need.nd rfl (by first | exact Or.inl rfl | exact Or.inr rfl))) (fun _ _ _ _ _ => pts_one (pt_cmpR (DL.k_neD K hr.units) (pv 4) (pv 3) (nomark _))) (fun _ _ _ _ _ => (pv 4))) rfl))), fun _ _ _ h => h.elim, ?_, ?_⟩
  · rintro Q c _ Ce ⟨B, a, b, rfl, ok, h, rfl⟩ hE _
    show Go c c.H0 _ _ [_, _, _, Sl.no, Sl.no]
    by_cases ha : hasB B a = true
    · have hb : hasB B b = false := by rw [ha] at h; simpa using h
      exact fun O σ F H e S => ev_standing (ev_var rfl) (er_var rfl) ha O σ F H S _ fun v F1 H1 e1 g1 S1 d1 => ez_standing (ev_var rfl) (er_var rfl) hb hE O σ F1 H1 S1 _
    · exact fun O σ F H e S => ez_standing (ev_var rfl) (er_var rfl) (by simpa using ha) hE O σ F H S _
  · rintro Q c a0 A B _ r B' hc ⟨a, b, rfl, ok, rfl, ch⟩ hs hQ
    show Go c c.H0 _ _ [_, _, _, Sl.no, Sl.no]
    obtain ⟨ha, hb, rfl⟩ := ch.free_inv
    have na := ok.nz a ((has_mem ok).mp ha)
    have nb := ok.nz b ((has_mem ok).mp hb)
    refine q_val (b := true) (d := DL.prD (a, b)) (EvL.ev (el_lst (ef_cons (eo_standing rfl (er_var rfl) ha) (ef_cons (eo_standing rfl (er_var rfl) hb) ef_nil)) (Nat.le_of_ble_eq_true rfl))) ?_
    walk_at "nm"
    refine go_stPairs hc CB rfl (EvL.is (el_lc (b0 := true) (xs := B.pairs) (enc := DL.prD) (js := [4]) (fun p => !decide (p = (a, b))) DL.prD (ee_pairs hc CB rfl) (by have := ok.pl; omega) (by simp) fun x hx => ⟨_, tg_name, ?_, fun _ => ev_var rfl⟩) rfl) fun A' g => nx_retBk rfl g rfl hQ
    obtain ⟨q1, q2⟩ := ok.pr x hx
    have nx := nice_prD (ok.nz _ q1) (ok.nz _ q2)
    have ny := nice_prD (p := (a, b)) na nb
    exact eb_test (Ev.r (b := false) (Ev.is (ev_neD (d := DL.prD x) (e := DL.prD (a, b)) (er_var rfl) (er_var rfl) (nx.shaped (by decide)) (ny.shaped (by decide))) (by rw [nx.eqB ny prD_inj])))
theorem lenB_Book_drop (B : Bk) (ds : List PyData) (r : PyData) (B' : Bk) (h : RB_Book_drop B ds r B') : ds.length + 1 = 2 := by obtain ⟨_, rfl, _⟩ := h; rfl

abbrev N_Book_drop : List Str := ["self", "name", "kept"]
theorem sc_Book_drop : FnScope N_Book_drop ["self", "name"] (defScope s_Book_drop) := ⟨rfl, rfl, rfl, by decide +kernel, rfl, by decide +kernel, by decide +kernel⟩
theorem ok_Book_drop (D : DL.DfnM K C_Book "drop" "Book.drop" s_Book_drop ["self", "name"]) (T : Tb mg) (EX_ : EX K mg C_BookError C_NoOrder C_NoRoom C_NoRow C_NoName C_NoText) (CB : DL.BkC K C_Book) (c_Book_standing : DL.ClM P w K mg base (L2.CX P w) 1 C_Book "standing" (DL.spM2 K C_Book [true, false] (P_Book_standing C_Book) R_Book_standing (X_Book_standing C_Book C_NoOrder C_NoRoom C_NoRow C_NoName C_NoText) RB_none)) : DL.ClM P w K mg base (L2.CX P w) 2 C_Book "drop" (DL.spM2 K C_Book [true, false] (P_never C_Book) R_never (X_Book_drop C_Book C_NoOrder C_NoRoom C_NoRow C_NoName C_NoText) RB_Book_drop) := by
  refine DL.cm_all (k := 1) D sc_Book_drop rfl lenB_Book_drop fun f cdv A outer s H E hr => ⟨_, (pss_cons (ps_expr (pe_dpop1 (DL.k_fld K (pv 0) rfl) (DL.pe_m c_Book_standing (hr.mono (by decide)) (passes_call (takes_of rfl rfl rfl rfl) (fun _ _ _ _ h => h)) (pv 0) (pa_cons (pv 1) pa_nil)) ⟨rfl, rfl, rfl, rfl⟩))
      (pss_cons (ps_fld (pv 0) (pe_lc (own := [("kept", 2)]) rfl sc_Book_drop.nd (DL.k_pi_list K (DL.k_fld K (pv 0) rfl)) (blkOk_by (N := N_Book_drop) (sc := defScope s_Book_drop) (by decide +kernel)) (fun _ _ _ _ _ => (pg_name (i := 2) sc_Book_drop.nd rfl (by first | exact Or.inl rfl | exact Or.inr rfl))) (fun _ _ _ _ _ => pts_one (pt_cmpR op_ne (pv 2) (pv 1) (nomark _))) (fun _ _ _ _ _ => (pv 2))) rfl)
      (pss_one (ps_fld (pv 0) (pe_lc (own := [("kept", 2)]) rfl sc_Book_drop.nd (DL.k_pi_list K (DL.k_fld K (pv 0) rfl)) (blkOk_by (N := N_Book_drop) (sc := defScope s_Book_drop) (by decide +kernel)) (fun _ _ _ _ _ => (pg_name (i := 2) sc_Book_drop.nd rfl (by first | exact Or.inl rfl | exact Or.inr rfl))) (fun _ _ _ _ _ => pts_one (pt_cmpR (DL.k_nin_seq K) (pv 1) (pv 2) rfl)) (fun _ _ _ _ _ => (pv 2))) rfl)))), fun _ _ _ h => h.elim, ?_, ?_⟩
  · rintro Q c _ Ce ⟨B, a, rfl, ok, h, rfl⟩ hE _
    show Go c c.H0 _ _ [_, _, Sl.no]
    exact zq_drop (ez_pop (er_works CB (er_var rfl)) (ez_standing (ev_var rfl) (er_var rfl) h hE))
  · rintro Q c a0 A B _ r B' hc ⟨a, rfl, ok, rfl, ch⟩ hs hQ
    show Go c c.H0 _ _ [_, _, Sl.no]
    obtain ⟨ha, rfl⟩ := ch.drop_inv
    obtain ⟨w, hw⟩ := has_val ha
    refine go_popWorks (D := { nx := _, rt := _ }) CB rfl (Ev.r (b := false) (eo_standing rfl (er_var rfl) ha)) hw ?_
    show Go _ _ _ _ _
    walk_at "nm"
    refine go_stNames (D := { nx := _, rt := _ }) (b := false) CB rfl (EvL.is (el_lc (b0 := false) (xs := B.names) (enc := PyData.str) (js := [2]) (fun n => !decide (n = a)) PyData.str (ee_names (B := { B with works := sdrop B.works a }) CB rfl) (by have := ok.le; omega) (by simp) fun x hx => ⟨_, tg_name, eb_test (Ev.r (b := false) (ev_neZ (er_var rfl) (er_var rfl))), fun _ => ev_var rfl⟩) rfl) fun A1 g1 => ?_
    show Go _ _ _ _ _
    walk_at "nm"
    exact go_stPairs hc CB rfl (EvL.is (el_lc (b0 := true) (xs := B.pairs) (enc := DL.prD) (js := [2]) (fun p => !decide (a = p.1 ∨ a = p.2)) DL.prD (ee_pairs (B := { B with names := B.names.filter fun n => !decide (n = a), works := sdrop B.works a }) hc CB rfl) (by have := ok.pl; omega) (by simp) fun x hx => ⟨_, tg_name, eb_test (Ev.r (b := false) (Ev.is (ev_niZ (z := a) (ns := [x.1, x.2]) (er_var rfl) (er_var rfl)) (by congr 2; simp))), fun _ => ev_var rfl⟩) rfl) fun A2 g2 => nx_retBk rfl (g1.trans g2) rfl hQ
theorem lenB_Book_change (B : Bk) (ds : List PyData) (r : PyData) (B' : Bk) (h : RB_Book_change B ds r B') : ds.length + 1 = 2 := by obtain ⟨_, rfl, _⟩ := h; rfl

abbrev N_Book_change : List Str := ["self", "words"]
theorem sc_Book_change : FnScope N_Book_change ["self", "words"] (defScope s_Book_change) := ⟨rfl, rfl, rfl, by decide +kernel, rfl, by decide +kernel, by decide +kernel⟩
theorem ok_Book_change (D : DL.DfnM K C_Book "change" "Book.change" s_Book_change ["self", "words"]) (T : Tb mg) (EX_ : EX K mg C_BookError C_NoOrder C_NoRoom C_NoRow C_NoName C_NoText) (CB : DL.BkC K C_Book) (c_Book_put_work : DL.ClM P w K mg base (L2.CX P w) 3 C_Book "put_work" (DL.spM2 K C_Book [true, false] (P_never C_Book) R_never (X_Book_put_work C_Book C_NoOrder C_NoRoom C_NoRow C_NoName C_NoText) RB_Book_put_work)) (c_Book_put_need : DL.ClM P w K mg base (L2.CX P w) 3 C_Book "put_need" (DL.spM2 K C_Book [true, false, false] (P_never C_Book) R_never (X_Book_put_need C_Book C_NoOrder C_NoRoom C_NoRow C_NoName C_NoText) RB_Book_put_need)) (c_Book_free_need : DL.ClM P w K mg base (L2.CX P w) 2 C_Book "free_need" (DL.spM2 K C_Book [true, false, false] (P_never C_Book) R_never (X_Book_free_need C_Book C_NoOrder C_NoRoom C_NoRow C_NoName C_NoText) RB_Book_free_need)) (c_Book_drop : DL.ClM P w K mg base (L2.CX P w) 2 C_Book "drop" (DL.spM2 K C_Book [true, false] (P_never C_Book) R_never (X_Book_drop C_Book C_NoOrder C_NoRoom C_NoRow C_NoName C_NoText) RB_Book_drop)) : DL.ClM P w K mg base (L2.CX P w) 4 C_Book "change" (DL.spM2 K C_Book [true, false] (P_never C_Book) R_never (X_Book_change C_Book C_NoOrder C_NoRoom C_NoRow C_NoName C_NoText) RB_Book_change) := by
  refine DL.cm_all (k := 3) D sc_Book_change rfl lenB_Book_change fun f cdv A outer s H E hr => ⟨_, (Evl.pss_cut (ps_if (pt_cmpR op_eq (pe_ix (DL.k_ix_list K) (pv 1) pe_int (fun _ _ => rfl)) pe_str (nomark _)) (pss_one (ps_expr (DL.pe_m c_Book_put_work (hr.mono (by decide)) (passes_call (takes_of rfl rfl rfl rfl) (fun _ _ _ _ h => h)) (pv 0) (pa_cons (pv 1) pa_nil)))) pss_nil)
      (Evl.pss_cut (ps_if (pt_cmpR op_eq (pe_ix (DL.k_ix_list K) (pv 1) pe_int (fun _ _ => rfl)) pe_str (nomark _)) (pss_one (ps_expr (DL.pe_m c_Book_put_need (hr.mono (by decide)) (passes_call (takes_of rfl rfl rfl rfl) (fun _ _ _ _ h => h)) (pv 0) (pa_cons (pe_ix (DL.k_ix_list K) (pv 1) pe_int (fun _ _ => rfl)) (pa_cons (pe_ix (DL.k_ix_list K) (pv 1) pe_int (fun _ _ => rfl)) pa_nil))))) pss_nil)
      (Evl.pss_cut (ps_if (pt_cmpR op_eq (pe_ix (DL.k_ix_list K) (pv 1) pe_int (fun _ _ => rfl)) pe_str (nomark _)) (pss_one (ps_expr (DL.pe_m c_Book_free_need (hr.mono (by decide)) (passes_call (takes_of rfl rfl rfl rfl) (fun _ _ _ _ h => h)) (pv 0) (pa_cons (pe_ix (DL.k_ix_list K) (pv 1) pe_int (fun _ _ => rfl)) (pa_cons (pe_ix (DL.k_ix_list K) (pv 1) pe_int (fun _ _ => rfl)) pa_nil))))) pss_nil)
      (Evl.pss_cut (ps_if (pt_cmpR op_eq (pe_ix (DL.k_ix_list K) (pv 1) pe_int (fun _ _ => rfl)) pe_str (nomark _)) (pss_one (ps_expr (DL.pe_m c_Book_drop (hr.mono (by decide)) (passes_call (takes_of rfl rfl rfl rfl) (fun _ _ _ _ h => h)) (pv 0) (pa_cons (pe_ix (DL.k_ix_list K) (pv 1) pe_int (fun _ _ => rfl)) pa_nil)))) pss_nil)
      (pss_one (ps_ret pe_str)))))), fun _ _ _ h => h.elim, ?_, ?_⟩
  · rintro Q c _ Ce ⟨B, ws, e, rfl, ok, sm, er, rfl⟩ hE _
    show Go c c.H0 _ _ [_, _]
    have tst : ∀ {f : Str} {r : List Str} {ρ : Rho} (z : Str), ρ[1]? = some (.val false (.list ((f :: r).map PyData.str))) → EvB c (tTest (tOp rEq (tOp (rIxL K) (tVar 1) (tC (.int 0))) (tC (.str z)))) ρ (decide (f = z)) := fun {f r ρ} z h => eb_test (Ev.r (b := false) (ev_eqZ (Ev.r (b := false) (ev_ix (ee_val h) (Ev.r (b := false) ev_int) (show atI ((f :: r).map PyData.str) 0 = some (.str f) from atI_zero))) (Ev.r (b := false) ev_str)))
    have hit : ∀ {t tz : TS} {D : Ends} {f : Str} {r : List Str} {ρ : Rho}, ρ[1]? = some (.val false (.list ((f :: r).map PyData.str))) → (∀ D', Go c c.H0 t D' ρ) → Go c c.H0 (Evl.tCut (tIfS (tTest (tOp rEq (tOp (rIxL K) (tVar 1) (tC (.int 0))) (tC (.str f)))) t tNext) tz) D ρ := fun h g => q_cut (fun _ => False) (go_when (tst _ h) (fun _ => g _) fun q => absurd q (by simp)) fun _ q => q.elim
    have miss : ∀ {t tz : TS} {D : Ends} {f z : Str} {r : List Str} {ρ : Rho}, ρ[1]? = some (.val false (.list ((f :: r).map PyData.str))) → f ≠ z → Go c c.H0 tz D ρ → Go c c.H0 (Evl.tCut (tIfS (tTest (tOp rEq (tOp (rIxL K) (tVar 1) (tC (.int 0))) (tC (.str z)))) t tNext) tz) D ρ := fun {t tz D f z r ρ} h ne g => q_cut1 ρ (go_when (tst _ h) (fun q => absurd (of_decide_eq_true q) ne) fun _ => nx_pst (Le.refl ρ)) g
    cases er with
    | @work n u l p e h => exact hit rfl fun D => z_drop (ez_meth nf_put_work (ev_var rfl) (em_any (er_var rfl) em_nil) ⟨B, _, n, u, l, p, e, rfl, ok, sm, h, rfl⟩ hE)
    | @need a b e h =>
      refine miss rfl (by decide +kernel) (hit rfl fun D => z_drop (ez_meth (ds := [.str a, .str b]) nf_put_need (ev_var rfl) (em_any (Ev.r (b := false) (ev_ix (ee_val rfl) (Ev.r (b := false) ev_int) (show atI ((["need", a, b] : List Str).map PyData.str) 1 = some (.str a) from atI_one))) (em_any (Ev.r (b := false) (ev_ix (ee_val rfl) (Ev.r (b := false) ev_int) (show atI ((["need", a, b] : List Str).map PyData.str) 2 = some (.str b) from atI_two))) em_nil)) ⟨B, a, b, e, rfl, ok, h, rfl⟩ hE))
    | @free a b h =>
      refine miss rfl (by decide +kernel) (miss rfl (by decide +kernel) (hit rfl fun D => z_drop (ez_meth (ds := [.str a, .str b]) nf_free_need (ev_var rfl) (em_any (Ev.r (b := false) (ev_ix (ee_val rfl) (Ev.r (b := false) ev_int) (show atI ((["free", a, b] : List Str).map PyData.str) 1 = some (.str a) from atI_one))) (em_any (Ev.r (b := false) (ev_ix (ee_val rfl) (Ev.r (b := false) ev_int) (show atI ((["free", a, b] : List Str).map PyData.str) 2 = some (.str b) from atI_two))) em_nil)) ⟨B, a, b, rfl, ok, h, rfl⟩ hE)))
    | @drop a h =>
      refine miss rfl (by decide +kernel) (miss rfl (by decide +kernel) (miss rfl (by decide +kernel) (hit rfl fun D => z_drop (ez_meth (ds := [.str a]) nf_drop (ev_var rfl) (em_any (Ev.r (b := false) (ev_ix (ee_val rfl) (Ev.r (b := false) ev_int) (show atI ((["drop", a] : List Str).map PyData.str) 1 = some (.str a) from atI_one))) em_nil) ⟨B, a, rfl, ok, h, rfl⟩ hE))))
  · rintro Q c a0 A B _ r B' hc ⟨ws, rfl, ok, sm, rfl, ch⟩ hs hQ
    show Go c c.H0 _ _ [_, _]
    have tst : ∀ {f : Str} {r : List Str} {ρ : Rho} (z : Str), ρ[1]? = some (.val true (.list ((f :: r).map PyData.str))) → EvB c (tTest (tOp rEq (tOp (rIxL K) (tVar 1) (tC (.int 0))) (tC (.str z)))) ρ (decide (f = z)) := fun {f r ρ} z h => eb_test (Ev.r (b := true) (ev_eqZ (Ev.r (b := true) (ev_ix (ee_val h) (Ev.r (b := true) ev_int) (show atI ((f :: r).map PyData.str) 0 = some (.str f) from atI_zero))) (Ev.r (b := true) ev_str)))
    have hit : ∀ {t tz : TS} {D : Ends} {f : Str} {r : List Str} {ρ : Rho} {Bo : Hp} (I : Rho → Prop), ρ[1]? = some (.val true (.list ((f :: r).map PyData.str))) → Go c Bo t { D with nx := Pst c Bo I } ρ → (∀ ρ', I ρ' → Go c Bo tz D ρ') → Go c Bo (Evl.tCut (tIfS (tTest (tOp rEq (tOp (rIxL K) (tVar 1) (tC (.int 0))) (tC (.str f)))) t tNext) tz) D ρ := fun I h g k => q_cut I (go_when (tst _ h) (fun _ => g) fun q => absurd q (by simp)) k
    have miss : ∀ {t tz : TS} {D : Ends} {f z : Str} {r : List Str} {ρ : Rho} {Bo : Hp}, ρ[1]? = some (.val true (.list ((f :: r).map PyData.str))) → f ≠ z → Go c Bo tz D ρ → Go c Bo (Evl.tCut (tIfS (tTest (tOp rEq (tOp (rIxL K) (tVar 1) (tC (.int 0))) (tC (.str z)))) t tNext) tz) D ρ := fun {t tz D f z r ρ Bo} h ne g => q_cut1 ρ (go_when (tst _ h) (fun q => absurd (of_decide_eq_true q) ne) fun _ => nx_pst (Le.refl ρ)) g
    cases ch with
    | @work n u l p h1 h2 h3 h4 h5 h6 =>
      refine hit (fun ρ => ∃ A', Grow a0 A A' ∧ Le [.bk C_Book a0 A' (pwDo B n (valZ u, valZ l, valZ p)), .val true (.list ((["work", n, u, l, p] : List Str).map PyData.str))] ρ) rfl (go_dropC (ec_meth nf_put_work rfl (ef_cons (ev_var rfl) ef_nil) ⟨n, u, l, p, rfl, ok, sm, rfl, .work h1 h2 h3 h4 h5 h6⟩ rfl) fun A' g => nx_pst ⟨A', g, (by walk_at "le")⟩) ?_
      rintro ρ1 ⟨A', g, l⟩
      exact go_weak l (miss rfl (by decide +kernel) (miss rfl (by decide +kernel) (miss rfl (by decide +kernel) (go_retBk (b := false) (r := .str "ok") rfl g ev_str rfl hQ))))
    | @need a b h1 h2 h3 h4 =>
      refine miss rfl (by decide +kernel) (hit (fun ρ => ∃ A', Grow a0 A A' ∧ Le [.bk C_Book a0 A' (pnDo B a b), .val true (.list ((["need", a, b] : List Str).map PyData.str))] ρ) rfl (go_dropC (ec_meth (ds := [.str a, .str b]) nf_put_need rfl (ef_cons (ev_ix (ee_val rfl) (Ev.r (b := true) ev_int) (show atI ((["need", a, b] : List Str).map PyData.str) 1 = some (.str a) from atI_one)) (ef_cons (ev_ix (ee_val rfl) (Ev.r (b := true) ev_int) (show atI ((["need", a, b] : List Str).map PyData.str) 2 = some (.str b) from atI_two)) ef_nil)) ⟨a, b, rfl, ok, rfl, .need h1 h2 h3 h4⟩ rfl) fun A' g => nx_pst ⟨A', g, (by walk_at "le")⟩) ?_)
      rintro ρ1 ⟨A', g, l⟩
      exact go_weak l (miss rfl (by decide +kernel) (miss rfl (by decide +kernel) (go_retBk (b := false) (r := .str "ok") rfl g ev_str rfl hQ)))
    | @free a b h1 h2 =>
      refine miss rfl (by decide +kernel) (miss rfl (by decide +kernel) (hit (fun ρ => ∃ A', Grow a0 A A' ∧ Le [.bk C_Book a0 A' (fnDo B a b), .val true (.list ((["free", a, b] : List Str).map PyData.str))] ρ) rfl (go_dropC (ec_meth (ds := [.str a, .str b]) nf_free_need rfl (ef_cons (ev_ix (ee_val rfl) (Ev.r (b := true) ev_int) (show atI ((["free", a, b] : List Str).map PyData.str) 1 = some (.str a) from atI_one)) (ef_cons (ev_ix (ee_val rfl) (Ev.r (b := true) ev_int) (show atI ((["free", a, b] : List Str).map PyData.str) 2 = some (.str b) from atI_two)) ef_nil)) ⟨a, b, rfl, ok, rfl, .free h1 h2⟩ rfl) fun A' g => nx_pst ⟨A', g, (by walk_at "le")⟩) ?_))
      rintro ρ1 ⟨A', g, l⟩
      exact go_weak l (miss rfl (by decide +kernel) (go_retBk (b := false) (r := .str "ok") rfl g ev_str rfl hQ))
    | @drop a h1 =>
      refine miss rfl (by decide +kernel) (miss rfl (by decide +kernel) (miss rfl (by decide +kernel) (hit (fun ρ => ∃ A', Grow a0 A A' ∧ Le [.bk C_Book a0 A' (drDo B a), .val true (.list ((["drop", a] : List Str).map PyData.str))] ρ) rfl (go_dropC (ec_meth (ds := [.str a]) nf_drop rfl (ef_cons (ev_ix (ee_val rfl) (Ev.r (b := true) ev_int) (show atI ((["drop", a] : List Str).map PyData.str) 1 = some (.str a) from atI_one)) ef_nil) ⟨a, rfl, ok, rfl, .drop h1⟩ rfl) fun A' g => nx_pst ⟨A', g, (by walk_at "le")⟩) ?_)))
      rintro ρ1 ⟨A', g, l⟩
      exact go_weak l (go_retBk (b := false) (r := .str "ok") rfl g ev_str rfl hQ)
theorem num_len400 {z : Int} (h : 0 ≤ z ∧ Sz 400 z) : (numZ z).length ≤ 400 := by
  obtain ⟨h0, h1⟩ := h
  refine (len_num (k := 400) h0 (by decide) ?_).2
  have := h1.h
  have e : (2 : Nat) ^ 400 ≤ 10 ^ 400 := Nat.pow_le_pow_left (by decide) _
  have e2 : ((10 ^ 400 : Nat) : Int) = (10 : Int) ^ 400 := by simp
  rw [← e2]
  omega

abbrev N_Book_show : List Str := ["self", "name", "work", "before", "one"]
theorem sc_Book_show : FnScope N_Book_show ["self", "name"] (defScope s_Book_show) := ⟨rfl, rfl, rfl, by decide +kernel, rfl, by decide +kernel, by decide +kernel⟩
theorem ok_Book_show (D : DL.DfnM K C_Book "show" "Book.show" s_Book_show ["self", "name"]) (T : Tb mg) (EX_ : EX K mg C_BookError C_NoOrder C_NoRoom C_NoRow C_NoName C_NoText) (CB : DL.BkC K C_Book) (c_Book_standing : DL.ClM P w K mg base (L2.CX P w) 1 C_Book "standing" (DL.spM2 K C_Book [true, false] (P_Book_standing C_Book) R_Book_standing (X_Book_standing C_Book C_NoOrder C_NoRoom C_NoRow C_NoName C_NoText) RB_none)) (c_shown : Cl P w K mg base CX0 1 "shown" (spF K R_shown)) : DL.ClM P w K mg base (L2.CX P w) 2 C_Book "show" (DL.spM2 K C_Book [true, false] (P_Book_show C_Book) R_Book_show (X_Book_show C_Book C_NoOrder C_NoRoom C_NoRow C_NoName C_NoText) RB_none) := by
  refine DL.cm_all (k := 1) D sc_Book_show rfl (fun _ _ _ _ h => h.elim) fun f cdv A outer s H E hr => ⟨_, (pss_cons (ps_set (i := 2) sc_Book_show.nd rfl (Or.inl rfl) (pe_dget (hu_of hr) (DL.k_fld K (pv 0) rfl) (DL.pe_m c_Book_standing (hr.mono (by decide)) (passes_call (takes_of rfl rfl rfl rfl) (fun _ _ _ _ h => h)) (pv 0) (pa_cons (pv 1) pa_nil)) (fun _ _ => rfl)))
      (pss_cons (ps_setLc (i := 3) rfl sc_Book_show.nd rfl rfl (sw_true rfl rfl rfl (by decide +kernel)) (own := [("one", 4)]) (DL.k_pi_list K (DL.k_fld K (pv 0) rfl)) (blkOk_by (N := N_Book_show) (sc := defScope s_Book_show) (by decide +kernel)) (fun _ _ _ _ _ => (pg_name (i := 4) sc_Book_show.nd rfl (by first | exact Or.inl rfl | exact Or.inr rfl))) (fun _ _ _ _ _ => pts_one (pt_cmpR (DL.k_inD K (DL.hu65 hr)) (pe_lst (pa_cons (pv 4) (pa_cons (pv 1) pa_nil))) (DL.k_fld K (pv 0) rfl) rfl)) (fun _ _ _ _ _ => (pv 4)))
      (pss_one (ps_ret (DL.k_join K pe_str (pe_op DL.op_catR (pe_lst (pa_cons (DL.pe_cl c_shown (hr.mono (by decide)) rfl pass0 (pa_cons (pv 2) pa_nil)) pa_nil)) (pv 3))))))), ?_, ?_, fun _ _ _ _ _ _ _ _ _ h => h.elim⟩
  · rintro Q c _ ⟨B, x, rfl, ok, hx, hn⟩ hQ _
    show Go c c.H0 _ _ [_, _, Sl.no, Sl.no, Sl.no]
    obtain ⟨w, hw⟩ := has_val hx
    have mx := (has_mem ok).mp hx
    have nx := ok.nz x mx
    refine q_val (b := true) (d := wD w) (ev_sget (ev_works CB (ev_var rfl)) (Ev.r (b := true) (ev_standing (ev_var rfl) (er_var rfl) hx)) (sval_wkS hw)) ?_
    walk_at "nm"
    have hwm : ∃ q ∈ B.works, q.2 = w := by
      unfold sval at hw
      obtain ⟨q, hq, e⟩ := Option.map_eq_some_iff.mp hw
      exact ⟨q, List.mem_of_find?_eq_some hq, e⟩
    obtain ⟨q, hqm, rfl⟩ := hwm
    obtain ⟨w1, w2, w3⟩ := hn q hqm
    refine q_own (b := true) (ds := (B.names.filter fun n => decide ((n, x) ∈ B.pairs)).map PyData.str) (el_lc (b0 := true) (xs := B.names) (enc := PyData.str) (js := [4]) (fun n => decide ((n, x) ∈ B.pairs)) PyData.str (Ev.e (ev_names CB (ev_var rfl))) (by have := ok.le; omega) (by simp) fun n hn => ⟨_, tg_name, eb_test (Ev.r (b := true) (Ev.is (ev_inD (d := DL.prD (n, x)) (ds := B.pairs.map DL.prD) (Ev.r (b := false) (EvL.ev (el_lst (ef_cons (ev_varS rfl rfl) (ef_cons (ev_varS rfl rfl) ef_nil)) (Nat.le_of_ble_eq_true rfl)))) (er_pairs CB (er_var rfl)) ((nice_prD (p := (n, x)) (ok.nz n hn) nx).shaped (by decide)) ((pairs_nice ok).shaped (by decide))) (by rw [pairs_any ok (x := (n, x)) (ok.nz n hn) nx]))), fun _ => ev_var rfl⟩) ?_
    walk_at "nm"
    have hS : R_shown [iL [q.2.1, q.2.2.1, q.2.2.2]] (.str (shownZ [q.2.1, q.2.2.1, q.2.2.2])) := ⟨_, rfl, ⟨Nat.le_of_ble_eq_true rfl, fun z hz => by
      simp only [List.mem_cons, List.not_mem_nil, or_false] at hz
      rcases hz with rfl | rfl | rfl
      · exact ⟨w1.1, w1.2.mono (by decide)⟩
      · exact ⟨w2.1, w2.2.mono (by decide)⟩
      · exact ⟨w3.1, w3.2.mono (by decide)⟩⟩, rfl⟩
    have sl : (shownZ [q.2.1, q.2.2.1, q.2.2.2]).length ≤ 2000 := by
      have e1 : ((" " : Str)).length = 1 := by decide +kernel
      have := join_len (sep := " ") (m := 400) (ys := [q.2.1, q.2.2.1, q.2.2.2].map numZ) fun y hy => by
        simp only [List.map_cons, List.map_nil, List.mem_cons, List.not_mem_nil, or_false] at hy
        rcases hy with rfl | rfl | rfl
        · exact num_len400 w1
        · exact num_len400 w2
        · exact num_len400 w3
      rw [e1] at this
      refine Nat.le_trans this (by simp)
    have fl : (B.names.filter fun n => decide ((n, x) ∈ B.pairs)).length ≤ 8 := Nat.le_trans (List.length_filter_le _ _) ok.le
    refine go_ret (d := .str (showB B x)) (Ev.is (ev_joinB (ys := [shownZ [q.2.1, q.2.2.1, q.2.2.2]] ++ B.names.filter fun n => decide ((n, x) ∈ B.pairs)) 2000 20 (Ev.r (b := true) ev_str) (Ev.r (b := true) (Ev.is (EvL.ev (el_cat (EvL.t (el_lst (ef_cons (ev_call (ds := [iL [q.2.1, q.2.2.1, q.2.2.2]]) (ea_cons (er_var rfl) ea_nil) hS) ef_nil) (Nat.le_of_ble_eq_true rfl))) (et_own rfl) (by rw [List.length_map]; show 1 + _ ≤ _; omega))) (by rw [List.map_append]; rfl))) (by rw [List.length_append]; show 1 + _ ≤ _; omega) (fun y hy => ?_) (by decide +kernel) (by decide)) ?_) (hQ _ fun C B' y e => ?_)
    · rcases List.mem_append.mp hy with hy | hy
      · rw [List.mem_singleton] at hy
        rw [hy]
        exact sl
      · have := (name_of (ok.nz y (List.mem_filter.mp hy).1)).2.1
        omega
    · unfold showB
      rw [hw]
    · injection e with e1 e
      injection e with e2 _
      injection e2 with e2
      rw [(bkD_inj e1).2, e2]
  · rintro Q c _ Ce ⟨B, x, rfl, hx, rfl⟩ hE _
    show Go c c.H0 _ _ [_, _, Sl.no, Sl.no, Sl.no]
    exact zq_asg (ez_dget (er_works CB (er_var rfl)) (ez_standing (ev_var rfl) (er_var rfl) hx hE))
abbrev N_Book_told_plan : List Str := ["self", "end", "plan", "k"]
theorem sc_Book_told_plan : FnScope N_Book_told_plan ["self", "end"] (defScope s_Book_told_plan) := ⟨rfl, rfl, rfl, by decide +kernel, rfl, by decide +kernel, by decide +kernel⟩
theorem ok_Book_told_plan (D : DL.DfnM K C_Book "told_plan" "Book.told_plan" s_Book_told_plan ["self", "end"]) (T : Tb mg) (EX_ : EX K mg C_BookError C_NoOrder C_NoRoom C_NoRow C_NoName C_NoText) (CB : DL.BkC K C_Book) (c_plan_at : Cl P w K mg base CX0 4 "plan_at" (fun _ _ _ _ => False)) (c_Book_listed : DL.ClM P w K mg base (L2.CX P w) 1 C_Book "listed" (DL.spM2 K C_Book [true] (P_Book_listed C_Book) R_Book_listed (X_never C_Book) RB_none)) (c_Book_needs : DL.ClM P w K mg base (L2.CX P w) 1 C_Book "needs" (DL.spM2 K C_Book [true] (P_Book_needs C_Book) R_Book_needs (X_never C_Book) RB_none)) (c_shown : Cl P w K mg base CX0 1 "shown" (spF K R_shown)) : DL.ClM P w K mg base (L2.CX P w) 5 C_Book "told_plan" (fun _ _ _ _ => False) := DL.cm_none D sc_Book_told_plan
abbrev N_Book_told_why : List Str := ["self", "end", "rows", "way", "work", "row"]
theorem sc_Book_told_why : FnScope N_Book_told_why ["self", "end"] (defScope s_Book_told_why) := ⟨rfl, rfl, rfl, by decide +kernel, rfl, by decide +kernel, by decide +kernel⟩
theorem ok_Book_told_why (D : DL.DfnM K C_Book "told_why" "Book.told_why" s_Book_told_why ["self", "end"]) (T : Tb mg) (EX_ : EX K mg C_BookError C_NoOrder C_NoRoom C_NoRow C_NoName C_NoText) (CB : DL.BkC K C_Book) (c_stream_at : Cl P w K mg base CX0 4 "stream_at" (fun _ _ _ _ => False)) (c_Book_listed : DL.ClM P w K mg base (L2.CX P w) 1 C_Book "listed" (DL.spM2 K C_Book [true] (P_Book_listed C_Book) R_Book_listed (X_never C_Book) RB_none)) (c_Book_needs : DL.ClM P w K mg base (L2.CX P w) 1 C_Book "needs" (DL.spM2 K C_Book [true] (P_Book_needs C_Book) R_Book_needs (X_never C_Book) RB_none)) (c_too_long : Cl P w K mg base CX0 6 "too_long" (fun _ _ _ _ => False)) : DL.ClM P w K mg base (L2.CX P w) 7 C_Book "told_why" (fun _ _ _ _ => False) := DL.cm_none D sc_Book_told_why
abbrev N_Book_told_spare : List Str := ["self", "end", "hours", "work"]
theorem sc_Book_told_spare : FnScope N_Book_told_spare ["self", "end"] (defScope s_Book_told_spare) := ⟨rfl, rfl, rfl, by decide +kernel, rfl, by decide +kernel, by decide +kernel⟩
theorem ok_Book_told_spare (D : DL.DfnM K C_Book "told_spare" "Book.told_spare" s_Book_told_spare ["self", "end"]) (T : Tb mg) (EX_ : EX K mg C_BookError C_NoOrder C_NoRoom C_NoRow C_NoName C_NoText) (CB : DL.BkC K C_Book) (c_Book_listed : DL.ClM P w K mg base (L2.CX P w) 1 C_Book "listed" (DL.spM2 K C_Book [true] (P_Book_listed C_Book) R_Book_listed (X_never C_Book) RB_none)) (c_length : Cl P w K mg base CX0 4 "length" (fun _ _ _ _ => False)) (c_Book_needs : DL.ClM P w K mg base (L2.CX P w) 1 C_Book "needs" (DL.spM2 K C_Book [true] (P_Book_needs C_Book) R_Book_needs (X_never C_Book) RB_none)) (c_shown : Cl P w K mg base CX0 1 "shown" (spF K R_shown)) (c_spare : Cl P w K mg base CX0 6 "spare" (fun _ _ _ _ => False)) : DL.ClM P w K mg base (L2.CX P w) 7 C_Book "told_spare" (fun _ _ _ _ => False) := DL.cm_none D sc_Book_told_spare
def P_Book_told_whole (C : Addr) (ds : List PyData) : Prop := ∃ B, ds = [bkD C B, .str "names"] ∧ BkOk B
def R_Book_told_whole (ds : List PyData) (r : PyData) : Prop := ∀ C B, ds = [bkD C B, .str "names"] → r = .str (Txt.join " " B.names)

abbrev N_Book_told_whole : List Str := ["self", "word", "corner"]
theorem sc_Book_told_whole : FnScope N_Book_told_whole ["self", "word"] (defScope s_Book_told_whole) := ⟨rfl, rfl, rfl, by decide +kernel, rfl, by decide +kernel, by decide +kernel⟩
theorem ok_Book_told_whole (D : DL.DfnM K C_Book "told_whole" "Book.told_whole" s_Book_told_whole ["self", "word"]) (T : Tb mg) (EX_ : EX K mg C_BookError C_NoOrder C_NoRoom C_NoRow C_NoName C_NoText) (CB : DL.BkC K C_Book) (c_shown : Cl P w K mg base CX0 1 "shown" (spF K R_shown)) (c_least_end : Cl P w K mg base CX0 5 "least_end" (fun _ _ _ _ => False)) (c_free_end : Cl P w K mg base CX0 5 "free_end" (fun _ _ _ _ => False)) (c_Book_listed : DL.ClM P w K mg base (L2.CX P w) 1 C_Book "listed" (DL.spM2 K C_Book [true] (P_Book_listed C_Book) R_Book_listed (X_never C_Book) RB_none)) (c_Book_needs : DL.ClM P w K mg base (L2.CX P w) 1 C_Book "needs" (DL.spM2 K C_Book [true] (P_Book_needs C_Book) R_Book_needs (X_never C_Book) RB_none)) (c_corners : Cl P w K mg base CX0 4 "corners" (fun _ _ _ _ => False)) : DL.ClM P w K mg base (L2.CX P w) 6 C_Book "told_whole" (DL.spM2 K C_Book [true, false] (P_Book_told_whole C_Book) R_Book_told_whole (X_never C_Book) RB_none) := by
  refine DL.cm_all (k := 5) D sc_Book_told_whole rfl (fun _ _ _ _ h => h.elim) fun f cdv A outer s H E hr => ⟨_, (pss_cons (ps_if (pt_cmpR op_eq (pv 1) pe_str (nomark _)) (pss_one (ps_ret (DL.k_join K pe_str (DL.k_fld K (pv 0) rfl)))) pss_nil)
      (pss_cons (ps_if (pt_cmpR op_eq (pv 1) pe_str (nomark _)) (pss_one (ps_ret (DL.pe_cl c_shown (hr.mono (by decide)) rfl pass0 (pa_cons (pe_lst (pa_cons (DL.pe_cl c_least_end (hr.mono (by decide)) rfl pass0 (pa_cons (DL.pe_m0 c_Book_listed (hr.mono (by decide)) (passes_call (takes_of rfl rfl rfl rfl) (fun _ _ _ _ h => h)) (pv 0)) (pa_cons (DL.pe_m0 c_Book_needs (hr.mono (by decide)) (passes_call (takes_of rfl rfl rfl rfl) (fun _ _ _ _ h => h)) (pv 0)) pa_nil))) (pa_cons (DL.pe_cl c_free_end (hr.mono (by decide)) rfl pass0 (pa_cons (DL.pe_m0 c_Book_listed (hr.mono (by decide)) (passes_call (takes_of rfl rfl rfl rfl) (fun _ _ _ _ h => h)) (pv 0)) (pa_cons (DL.pe_m0 c_Book_needs (hr.mono (by decide)) (passes_call (takes_of rfl rfl rfl rfl) (fun _ _ _ _ h => h)) (pv 0)) pa_nil))) pa_nil))) pa_nil)))) pss_nil)
      (pss_one (ps_ret (DL.k_join K pe_str (pe_lc (own := [("corner", 2)]) rfl sc_Book_told_whole.nd (DL.k_pi_list K (DL.pe_cl c_corners (hr.mono (by decide)) rfl pass0 (pa_cons (DL.pe_m0 c_Book_listed (hr.mono (by decide)) (passes_call (takes_of rfl rfl rfl rfl) (fun _ _ _ _ h => h)) (pv 0)) (pa_cons (DL.pe_m0 c_Book_needs (hr.mono (by decide)) (passes_call (takes_of rfl rfl rfl rfl) (fun _ _ _ _ h => h)) (pv 0)) pa_nil)))) (blkOk_by (N := N_Book_told_whole) (sc := defScope s_Book_told_whole) (by decide +kernel)) (fun _ _ _ _ _ => (pg_name (i := 2) sc_Book_told_whole.nd rfl (by first | exact Or.inl rfl | exact Or.inr rfl))) (fun _ _ _ _ _ => pts_nil) (fun _ _ _ _ _ => (DL.pe_cl c_shown (hr.mono (by decide)) rfl pass0 (pa_cons (pv 2) pa_nil))))))))), ?_, fun _ _ _ _ h => h.elim, fun _ _ _ _ _ _ _ _ _ h => h.elim⟩
  rintro Q c _ ⟨B, rfl, ok⟩ hQ _
  show Go c c.H0 _ _ [_, _, Sl.no]
  refine q_when (x := true) (EvB.is (eb_test (Ev.r (b := true) (ev_eqZ (x := "names") (y := "names") (er_var rfl) (Ev.r (b := true) ev_str)))) (by simp)) (fun _ => ?_) fun h => nomatch h
  exact go_ret (ev_joinB 10 10 (Ev.r (b := true) ev_str) (er_names CB (er_var rfl)) (by have := ok.le; omega) (fun y hy => by have := (name_of (ok.nz y hy)).2.1; omega) (by decide +kernel) (by decide)) (hQ _ fun C B' e => by
    injection e with e1 _
    rw [(bkD_inj e1).2])
def WkNum (B : Bk) : Prop := ∀ q ∈ B.works, (0 ≤ q.2.1 ∧ Sz 400 q.2.1) ∧ (0 ≤ q.2.2.1 ∧ Sz 400 q.2.2.1) ∧ (0 ≤ q.2.2.2 ∧ Sz 400 q.2.2.2)
def P_Book_say (C : Addr) (ds : List PyData) : Prop := ∃ B row, ds = [bkD C B, .str row] ∧ BkOk B ∧ row.length ≤ 1000 ∧ WkNum B ∧ (Txt.split row " " = (["names"] : List Str) ∨ ∃ x, Txt.split row " " = (["show", x] : List Str) ∧ hasB B x = true)
def R_Book_say (ds : List PyData) (r : PyData) : Prop := ∀ C B row, ds = [bkD C B, .str row] → (Txt.split row " " = (["names"] : List Str) → r = .str (Txt.join " " B.names)) ∧ ∀ x, Txt.split row " " = (["show", x] : List Str) → r = .str (showB B x)
def X_Book_say (C O R W N T : Addr) (ds : List PyData) (Ce : Addr) : Prop := ∃ B row e, ds = [bkD C B, .str row] ∧ BkOk B ∧ row.length ≤ 1000 ∧ Small (Txt.split row " ") ∧ SErr B (Txt.split row " ") e ∧ Ce = erA O R W N T e
def RB_Book_say (B : Bk) (ds : List PyData) (r : PyData) (B' : Bk) : Prop := ∃ row, ds = [.str row] ∧ BkOk B ∧ row.length ≤ 1000 ∧ Small (Txt.split row " ") ∧ r = .str "ok" ∧ Chg B (Txt.split row " ") B'
theorem lenB_Book_say (B : Bk) (ds : List PyData) (r : PyData) (B' : Bk) (h : RB_Book_say B ds r B') : ds.length + 1 = 2 := by obtain ⟨_, rfl, _⟩ := h; rfl
section
variable {K : PySem.W.Frag} {c : Cq K} {ρ : Rho} {ws : List Str} {f : Str} {r : List Str} {b : Bool}
theorem say_said (h : ρ[2]? = some (.val true (.list (ws.map PyData.str)))) (hne : ws ≠ []) : EvB c (tNot (tB (tCall (spF K R_is_said) [] E0 (tCons (tVar 2) tNil)))) ρ (!saidB ws) :=
  eb_not (eb_B (Ev.r (b := false) (ev_call (ds := [.list (ws.map PyData.str)]) (ea_cons (er_var h) ea_nil) ⟨ws, rfl, hne, rfl⟩)))
theorem say_w (h : ρ[2]? = some (.val true (.list ((f :: r).map PyData.str)))) : EvR c (tOp (rIxL K) (tVar 2) (tC (.int 0))) ρ (.str f) := Ev.r (b := true) (ev_ix (ee_val h) (Ev.r (b := true) ev_int) (show atI ((f :: r).map PyData.str) 0 = some (.str f) from atI_zero))
theorem say_w1 {g : Str} (h : ρ[2]? = some (.val true (.list ((f :: g :: r).map PyData.str)))) : Ev c true (tOp (rIxL K) (tVar 2) (tC (.int 1))) ρ (.str g) := ev_ix (ee_val h) (Ev.r (b := true) ev_int) (show atI ((f :: g :: r).map PyData.str) 1 = some (.str g) from atI_one)
theorem say_four (h : ρ[2]? = some (.val true (.list ((f :: r).map PyData.str)))) : EvB c (tTest (tOp (rIn K false) (tOp (rIxL K) (tVar 2) (tC (.int 0))) (tTup (tCons (tC (.str "work")) (tCons (tC (.str "need")) (tCons (tC (.str "free")) (tCons (tC (.str "drop")) tNil))))))) ρ (decide (f ∈ (["work", "need", "free", "drop"] : List Str))) :=
  eb_test (Ev.r (b := true) (ev_inZT (say_w h) (Ev.r (b := true) (ev_tup (ds := (["work", "need", "free", "drop"] : List Str).map PyData.str) (ef_cons ev_str (ef_cons ev_str (ef_cons ev_str (ef_cons ev_str ef_nil)))) (by decide)))))
theorem say_len (h : ρ[2]? = some (.val true (.list ((f :: r).map PyData.str)))) : EvB c (tTest (tOp rEq (tCB (fun xs H Q => ∃ p ys, xs = [V.ref p] ∧ (SqL K H p ys ∨ SqT K H p ys) ∧ Q (.int ys.length) H) (tCons (tVar 2) tNil)) (tC (.int 1)))) ρ (decide (r.length = 0)) :=
  EvB.is (eb_test (Ev.r (b := true) (ev_eqI (Ev.r (b := true) (ev_len (er_var h))) (Ev.r (b := true) ev_int)))) (by rw [List.length_map, List.length_cons, decide_eq_decide]; omega)
theorem say_eq {z : Str} (h : ρ[2]? = some (.val true (.list ((f :: r).map PyData.str)))) : EvB c (tTest (tOp rEq (tOp (rIxL K) (tVar 2) (tC (.int 0))) (tC (.str z)))) ρ (decide (f = z)) := eb_test (Ev.r (b := true) (ev_eqZ (say_w h) (Ev.r (b := true) ev_str)))
end

abbrev N_Book_say : List Str := ["self", "row", "words", "end", "price"]
theorem sc_Book_say : FnScope N_Book_say ["self", "row"] (defScope s_Book_say) := ⟨rfl, rfl, rfl, by decide +kernel, rfl, by decide +kernel, by decide +kernel⟩
theorem ok_Book_say (D : DL.DfnM K C_Book "say" "Book.say" s_Book_say ["self", "row"]) (T : Tb mg) (EX_ : EX K mg C_BookError C_NoOrder C_NoRoom C_NoRow C_NoName C_NoText) (CB : DL.BkC K C_Book) (c_is_said : Cl P w K mg base CX0 1 "is_said" (spF K R_is_said)) (c_Book_change : DL.ClM P w K mg base (L2.CX P w) 4 C_Book "change" (DL.spM2 K C_Book [true, false] (P_never C_Book) R_never (X_Book_change C_Book C_NoOrder C_NoRoom C_NoRow C_NoName C_NoText) RB_Book_change)) (c_Book_told_whole : DL.ClM P w K mg base (L2.CX P w) 6 C_Book "told_whole" (DL.spM2 K C_Book [true, false] (P_Book_told_whole C_Book) R_Book_told_whole (X_never C_Book) RB_none)) (c_Book_show : DL.ClM P w K mg base (L2.CX P w) 2 C_Book "show" (DL.spM2 K C_Book [true, false] (P_Book_show C_Book) R_Book_show (X_Book_show C_Book C_NoOrder C_NoRoom C_NoRow C_NoName C_NoText) RB_none)) (c_read_count : Cl P w K mg base (L2.CX P w) 2 "read_count" (DL.spO K (O_read_count C_NoText))) (c_Book_told_plan : DL.ClM P w K mg base (L2.CX P w) 5 C_Book "told_plan" (fun _ _ _ _ => False)) (c_Book_told_why : DL.ClM P w K mg base (L2.CX P w) 7 C_Book "told_why" (fun _ _ _ _ => False)) (c_Book_told_spare : DL.ClM P w K mg base (L2.CX P w) 7 C_Book "told_spare" (fun _ _ _ _ => False)) (c_end_for : Cl P w K mg base CX0 5 "end_for" (fun _ _ _ _ => False)) (c_Book_listed : DL.ClM P w K mg base (L2.CX P w) 1 C_Book "listed" (DL.spM2 K C_Book [true] (P_Book_listed C_Book) R_Book_listed (X_never C_Book) RB_none)) (c_Book_needs : DL.ClM P w K mg base (L2.CX P w) 1 C_Book "needs" (DL.spM2 K C_Book [true] (P_Book_needs C_Book) R_Book_needs (X_never C_Book) RB_none)) (c_shown : Cl P w K mg base CX0 1 "shown" (spF K R_shown)) (c_best_end : Cl P w K mg base CX0 5 "best_end" (fun _ _ _ _ => False)) (c_best_sum : Cl P w K mg base CX0 5 "best_sum" (fun _ _ _ _ => False)) (c_price_at : Cl P w K mg base CX0 5 "price_at" (fun _ _ _ _ => False)) : DL.ClM P w K mg base (L2.CX P w) 8 C_Book "say" (DL.spM2 K C_Book [true, false] (P_Book_say C_Book) R_Book_say (X_Book_say C_Book C_NoOrder C_NoRoom C_NoRow C_NoName C_NoText) RB_Book_say) := by
  refine DL.cm_all (k := 7) D sc_Book_say rfl lenB_Book_say fun f cdv A outer s H E hr => ⟨_, (pss_cons (ps_set (i := 2) sc_Book_say.nd rfl (Or.inl rfl) (pe_split (pv 1) pe_str))
      (pss_cons (ps_if (pt_not (pt_val (DL.pe_cl c_is_said (hr.mono (by decide)) rfl pass0 (pa_cons (pv 2) pa_nil)))) (pss_one (DL.ps_raiseK EX_.e_NoRow rfl (takes_of rfl rfl rfl rfl) rfl)) pss_nil)
      (pss_cons (ps_if (pt_cmpR (DL.k_in_seq K) (pe_ix (DL.k_ix_list K) (pv 2) pe_int (fun _ _ => rfl)) (pe_tup (pa_cons pe_str (pa_cons pe_str (pa_cons pe_str (pa_cons pe_str pa_nil))))) rfl) (pss_one (ps_ret (DL.pe_m c_Book_change (hr.mono (by decide)) (passes_call (takes_of rfl rfl rfl rfl) (fun _ _ _ _ h => h)) (pv 0) (pa_cons (pv 2) pa_nil)))) pss_nil)
      (pss_cons (ps_if (pt_cmpR op_eq (pe_callB (DL.k_len_seq K) rfl T.len_ (by decide +kernel) (pa_cons (pv 2) pa_nil)) pe_int (nomark _)) (pss_one (ps_ret (DL.pe_m c_Book_told_whole (hr.mono (by decide)) (passes_call (takes_of rfl rfl rfl rfl) (fun _ _ _ _ h => h)) (pv 0) (pa_cons (pe_ix (DL.k_ix_list K) (pv 2) pe_int (fun _ _ => rfl)) pa_nil)))) pss_nil)
      (pss_cons (ps_if (pt_cmpR op_eq (pe_ix (DL.k_ix_list K) (pv 2) pe_int (fun _ _ => rfl)) pe_str (nomark _)) (pss_one (ps_ret (DL.pe_m c_Book_show (hr.mono (by decide)) (passes_call (takes_of rfl rfl rfl rfl) (fun _ _ _ _ h => h)) (pv 0) (pa_cons (pe_ix (DL.k_ix_list K) (pv 2) pe_int (fun _ _ => rfl)) pa_nil)))) pss_nil)
      (pss_cons (ps_set (i := 3) sc_Book_say.nd rfl (Or.inl rfl) (DL.pe_cl c_read_count (hr.mono (by decide)) rfl (passes_call (takes_of rfl rfl rfl rfl) (fun _ _ _ _ h => h)) (pa_cons (pe_ix (DL.k_ix_list K) (pv 2) pe_int (fun _ _ => rfl)) pa_nil)))
      (pss_cons (ps_if (pt_cmpR op_eq (pe_ix (DL.k_ix_list K) (pv 2) pe_int (fun _ _ => rfl)) pe_str (nomark _)) (pss_one (ps_ret (DL.pe_m c_Book_told_plan (hr.mono (by decide)) (passes_call (takes_of rfl rfl rfl rfl) (fun _ _ _ _ h => h)) (pv 0) (pa_cons (pv 3) pa_nil)))) pss_nil)
      (pss_cons (ps_if (pt_cmpR op_eq (pe_ix (DL.k_ix_list K) (pv 2) pe_int (fun _ _ => rfl)) pe_str (nomark _)) (pss_one (ps_ret (DL.pe_m c_Book_told_why (hr.mono (by decide)) (passes_call (takes_of rfl rfl rfl rfl) (fun _ _ _ _ h => h)) (pv 0) (pa_cons (pv 3) pa_nil)))) pss_nil)
      (pss_cons (ps_if (pt_cmpR op_eq (pe_ix (DL.k_ix_list K) (pv 2) pe_int (fun _ _ => rfl)) pe_str (nomark _)) (pss_one (ps_ret (DL.pe_m c_Book_told_spare (hr.mono (by decide)) (passes_call (takes_of rfl rfl rfl rfl) (fun _ _ _ _ h => h)) (pv 0) (pa_cons (pv 3) pa_nil)))) pss_nil)
      (pss_cons (ps_if (pt_cmpR op_eq (pe_ix (DL.k_ix_list K) (pv 2) pe_int (fun _ _ => rfl)) pe_str (nomark _)) (pss_one (ps_ret (pe_callTy call_str_int rfl T.str_ (by decide +kernel) (pa_cons (DL.pe_cl c_end_for (hr.mono (by decide)) rfl pass0 (pa_cons (DL.pe_m0 c_Book_listed (hr.mono (by decide)) (passes_call (takes_of rfl rfl rfl rfl) (fun _ _ _ _ h => h)) (pv 0)) (pa_cons (DL.pe_m0 c_Book_needs (hr.mono (by decide)) (passes_call (takes_of rfl rfl rfl rfl) (fun _ _ _ _ h => h)) (pv 0)) (pa_cons (pv 3) pa_nil)))) pa_nil)))) pss_nil)
      (pss_cons (ps_if (pt_cmpR op_eq (pe_ix (DL.k_ix_list K) (pv 2) pe_int (fun _ _ => rfl)) pe_str (nomark _)) (pss_one (ps_ret (DL.pe_cl c_shown (hr.mono (by decide)) rfl pass0 (pa_cons (pe_lst (pa_cons (DL.pe_cl c_best_end (hr.mono (by decide)) rfl pass0 (pa_cons (DL.pe_m0 c_Book_listed (hr.mono (by decide)) (passes_call (takes_of rfl rfl rfl rfl) (fun _ _ _ _ h => h)) (pv 0)) (pa_cons (DL.pe_m0 c_Book_needs (hr.mono (by decide)) (passes_call (takes_of rfl rfl rfl rfl) (fun _ _ _ _ h => h)) (pv 0)) (pa_cons (pv 3) pa_nil)))) (pa_cons (DL.pe_cl c_best_sum (hr.mono (by decide)) rfl pass0 (pa_cons (DL.pe_m0 c_Book_listed (hr.mono (by decide)) (passes_call (takes_of rfl rfl rfl rfl) (fun _ _ _ _ h => h)) (pv 0)) (pa_cons (DL.pe_m0 c_Book_needs (hr.mono (by decide)) (passes_call (takes_of rfl rfl rfl rfl) (fun _ _ _ _ h => h)) (pv 0)) (pa_cons (pv 3) pa_nil)))) pa_nil))) pa_nil)))) pss_nil)
      (pss_cons (ps_set (i := 4) sc_Book_say.nd rfl (Or.inl rfl) (DL.pe_cl c_price_at (hr.mono (by decide)) rfl pass0 (pa_cons (DL.pe_m0 c_Book_listed (hr.mono (by decide)) (passes_call (takes_of rfl rfl rfl rfl) (fun _ _ _ _ h => h)) (pv 0)) (pa_cons (DL.pe_m0 c_Book_needs (hr.mono (by decide)) (passes_call (takes_of rfl rfl rfl rfl) (fun _ _ _ _ h => h)) (pv 0)) (pa_cons (pv 3) pa_nil)))))
      (pss_cons (ps_if (pt_cmpR op_isN (pv 4) pe_non (nomark _)) (pss_one (ps_ret pe_str)) pss_nil)
      (pss_one (ps_ret (pe_callTy call_str_int rfl T.str_ (by decide +kernel) (pa_cons (pv 4) pa_nil))))))))))))))))), ?_, ?_, ?_⟩
  · rintro Q c _ ⟨B, row, rfl, ok, hl, wn, hr2⟩ hQ _
    show Go c c.H0 _ _ [_, _, Sl.no, Sl.no, Sl.no]
    refine q_val (b := true) (d := .list ((Txt.split row " ").map PyData.str)) (EvL.ev (el_split (er_var rfl) (Ev.r (b := true) ev_str) (by decide +kernel) (by omega))) ?_
    walk_at "nm"
    rcases hr2 with e | ⟨x, e, hx⟩
    · rw [e]
      refine q_when (x := !saidB ["names"]) (say_said rfl (by simp)) (fun h => absurd h (by rw [said_one (by decide +kernel)]; decide)) fun _ => ?_
      refine q_when (say_four rfl) (fun h => absurd h (by decide +kernel)) fun _ => ?_
      refine q_when (say_len rfl) (fun _ => ?_) fun h => absurd h (by decide)
      refine go_retEN (en_meth nf_told_whole (ev_var rfl) (em_any (say_w rfl) em_nil) ⟨B, rfl, ok⟩) fun d hd => hQ d fun C B' row' e' => ?_
      injection e' with e1 e2
      injection e2 with e2 _
      injection e2 with e2
      have eB := (bkD_inj e1).2
      subst eB e2
      refine ⟨fun _ => hd C_Book B rfl, fun x hx => ?_⟩
      rw [e] at hx
      cases hx
    · rw [e]
      refine q_when (x := !saidB ["show", x]) (say_said rfl (by simp)) (fun h => absurd h (by rw [said_two (by decide +kernel)]; decide)) fun _ => ?_
      refine q_when (say_four rfl) (fun h => absurd h (by decide +kernel)) fun _ => ?_
      refine q_when (say_len rfl) (fun h => absurd h (by simp)) fun _ => ?_
      refine q_when (say_eq rfl) (fun _ => ?_) fun h => absurd h (by simp)
      refine go_retEN (en_meth nf_show (ev_var rfl) (em_any (Ev.r (b := true) (say_w1 rfl)) em_nil) ⟨B, x, rfl, ok, hx, wn⟩) fun d hd => hQ d fun C B' row' e' => ?_
      injection e' with e1 e2
      injection e2 with e2 _
      injection e2 with e2
      have eB := (bkD_inj e1).2
      subst eB e2
      refine ⟨fun h => (by rw [e] at h; cases h), fun y hy => ?_⟩
      rw [e] at hy
      injection hy with _ hy
      injection hy with hy _
      subst hy
      exact hd C_Book B x rfl
  · rintro Q c _ Ce ⟨B, row, e, rfl, ok, hl, sm, er, rfl⟩ hE _
    show Go c c.H0 _ _ [_, _, Sl.no, Sl.no, Sl.no]
    refine q_val (b := true) (d := .list ((Txt.split row " ").map PyData.str)) (EvL.ev (el_split (er_var rfl) (Ev.r (b := true) ev_str) (by decide +kernel) (by omega))) ?_
    walk_at "nm"
    have hne := split_ne row
    generalize Txt.split row " " = ws at er sm hne
    cases er with
    | row h => exact q_when (x := !saidB ws) (say_said rfl hne) (fun _ => go_raise hE) fun g => absurd g (by rw [h]; decide)
    | chg h =>
      obtain ⟨f, r, rfl, h1, h2⟩ := h.said
      refine q_when (x := !saidB (f :: r)) (say_said rfl hne) (fun g => absurd g (by rw [h1]; decide)) fun _ => ?_
      refine q_when (say_four rfl) (fun _ => ?_) fun g => absurd h2 (of_decide_eq_false g)
      exact z_ret (ez_meth (ds := [.list ((f :: r).map PyData.str)]) nf_change (ev_var rfl) (em_any (er_var rfl) em_nil) ⟨B, _, e, rfl, ok, sm, h, rfl⟩ hE)
    | @shw a h =>
      refine q_when (x := !saidB ["show", a]) (say_said rfl (by simp)) (fun h => absurd h (by rw [said_two (by decide +kernel)]; decide)) fun _ => ?_
      refine q_when (say_four rfl) (fun h => absurd h (by decide +kernel)) fun _ => ?_
      refine q_when (say_len rfl) (fun h => absurd h (by simp)) fun _ => ?_
      refine q_when (say_eq rfl) (fun _ => ?_) fun h => absurd h (by simp)
      exact z_ret (ez_meth (ds := [.str a]) nf_show (ev_var rfl) (em_any (Ev.r (b := true) (say_w1 rfl)) em_nil) ⟨B, a, rfl, h, rfl⟩ hE)
    | @num f z hf hz =>
      have m8 : f ∈ (["drop", "show", "price", "plan", "why", "spare", "budget", "bonus"] : List Str) := List.mem_cons_of_mem _ (List.mem_cons_of_mem _ hf)
      have n4 : f ∉ (["work", "need", "free", "drop"] : List Str) := fun q => by
        simp only [List.mem_cons, List.not_mem_nil, or_false] at hf
        rcases hf with rfl | rfl | rfl | rfl | rfl | rfl <;> exact absurd q (by decide +kernel)
      have ns : f ≠ "show" := fun q => by rw [q] at hf; exact absurd hf (by decide +kernel)
      refine q_when (x := !saidB [f, z]) (say_said rfl (by simp)) (fun h => absurd h (by rw [said_two m8]; decide)) fun _ => ?_
      refine q_when (say_four rfl) (fun h => absurd (of_decide_eq_true h) n4) fun _ => ?_
      refine q_when (say_len rfl) (fun h => absurd h (by simp)) fun _ => ?_
      refine q_when (say_eq rfl) (fun h => absurd (of_decide_eq_true h) ns) fun _ => ?_
      exact zq_asg (ez_callO (ds := [.str z]) (ea_cons (Ev.r (b := true) (say_w1 rfl)) ea_nil) ⟨z, rfl, sm.2 z (by simp), .inr ⟨hz, rfl⟩⟩ hE)
  · rintro Q c a0 A B _ r B' hc ⟨row, rfl, ok, hl, sm, rfl, ch⟩ hs hQ
    show Go c c.H0 _ _ [_, _, Sl.no, Sl.no, Sl.no]
    refine q_val (b := true) (d := .list ((Txt.split row " ").map PyData.str)) (EvL.ev (el_split (er_var rfl) (Ev.r (b := true) ev_str) (by decide +kernel) (by omega))) ?_
    walk_at "nm"
    have hne := split_ne row
    generalize Txt.split row " " = ws at ch sm hne
    obtain ⟨f, r, rfl, h1, h2⟩ := ch.said
    refine q_when (x := !saidB (f :: r)) (say_said rfl hne) (fun g => absurd g (by rw [h1]; decide)) fun _ => ?_
    refine q_when (say_four rfl) (fun _ => ?_) fun g => absurd h2 (of_decide_eq_false g)
    exact go_retCBk (ec_meth (ds := [.list ((f :: r).map PyData.str)]) nf_change rfl (ef_cons (ev_var rfl) ef_nil) ⟨_, rfl, ok, sm, rfl, ch⟩ rfl) (Nat.le_of_ble_eq_true rfl) (Grow.refl A) hQ
def mixZ (n k : Int) : Int := (n * n + k * n + 7 * k * k) * 1103515245 % 2147483629
theorem mix_lo (n k : Int) : 0 ≤ mixZ n k := Int.emod_nonneg _ (by decide)
theorem mix_hi (n k : Int) : mixZ n k < 2147483629 := Int.emod_lt_of_pos _ (by decide)
theorem mix_sz (n k : Int) : Sz 31 (mixZ n k) := Sz.lt (mix_lo n k) (Int.lt_trans (mix_hi n k) (by decide))
def R__law_mix (ds : List PyData) (r : PyData) : Prop := ∃ n k : Int, ds = [.int n, .int k] ∧ Sz 1100000 n ∧ Sz 64 k ∧ r = .int (mixZ n k)
theorem len__law_mix (ds : List PyData) (r : PyData) (h : R__law_mix ds r) : ds.length = 2 := by obtain ⟨n, k, rfl, _⟩ := h; rfl
theorem mix_is {m : Nat} {n k : Int} (hn : Sz m n) (hk : Sz 64 k) (hm : m ≤ 1100000) : R__law_mix [.int n, .int k] (.int (mixZ n k)) := ⟨n, k, rfl, hn.mono hm, hk, rfl⟩
local macro_rules
  | `(tactic| walk_at "side") => `(tactic| ((with_reducible apply LW.mix_is) <;> walk_at "sz"))
local macro_rules
  | `(tactic| walk_at "sz") => `(tactic| exact LW.mix_sz _ _)

abbrev N__law_mix : List Str := ["_law_number", "_law_k"]
theorem sc__law_mix : FnScope N__law_mix ["_law_number", "_law_k"] (defScope s__law_mix) := ⟨rfl, rfl, rfl, by decide +kernel, rfl, by decide +kernel, by decide +kernel⟩
theorem ok__law_mix (D : Dfn K mg "_law_mix" s__law_mix ["_law_number", "_law_k"]) (T : Tb mg) (EX_ : EX K mg C_BookError C_NoOrder C_NoRoom C_NoRow C_NoName C_NoText) (CB : DL.BkC K C_Book) : Cl P w K mg base CX0 1 "_law_mix" (spF K R__law_mix) := by
  refine cl_F (k := 0) D sc__law_mix len__law_mix fun f cdv A outer s H E hr => ⟨_, (pss_one (ps_ret (pe_op op_mod (pe_op DL.op_mulB (pe_op op_add (pe_op op_add (pe_op DL.op_mulB (pv 0) (pv 0)) (pe_op DL.op_mulB (pv 1) (pv 0))) (pe_op DL.op_mulB (pe_op DL.op_mulB pe_int (pv 1)) (pv 1))) pe_int) pe_int))), ?_⟩
  rintro Q c _ _ ⟨n, k, rfl, hn, hk, rfl⟩ hQ
  show Go c c.H0 _ _ [_, _]
  exact go_ret (d := .int (mixZ n k)) (by walk_at "dl") hQ
def cellZ (ns : List Int) (k : Int) : Int := ns.getD k.toNat 0
def R__law_cell_at (ds : List PyData) (r : PyData) : Prop := ∃ (ns : List Int) (k : Int), ds = [iL ns, .int k] ∧ 0 ≤ k ∧ r = .int (cellZ ns k)
theorem len__law_cell_at (ds : List PyData) (r : PyData) (h : R__law_cell_at ds r) : ds.length = 2 := by obtain ⟨n, k, rfl, _⟩ := h; rfl
theorem cell_is {ns : List Int} {k : Int} (hk : 0 ≤ k) : R__law_cell_at [iL ns, .int k] (.int (cellZ ns k)) := ⟨ns, k, rfl, hk, rfl⟩
theorem cell_sz {ns : List Int} {m : Nat} (h : ∀ z ∈ ns, Sz m z) (k : Int) : Sz m (cellZ ns k) := by
  unfold cellZ
  rw [List.getD_eq_getElem?_getD]
  cases e : ns[k.toNat]? with
  | none => exact ⟨by simp; exact Nat.pow_pos (by decide)⟩
  | some z => exact h z (List.mem_of_getElem? e)
local macro_rules
  | `(tactic| walk_at "side") => `(tactic| ((with_reducible apply LW.cell_is); (first | decide | omega)))
local macro_rules
  | `(tactic| walk_at "sz") => `(tactic| exact LW.cell_sz (by assumption) _)

abbrev N__law_cell_at : List Str := ["_law_script", "_law_k"]
theorem sc__law_cell_at : FnScope N__law_cell_at ["_law_script", "_law_k"] (defScope s__law_cell_at) := ⟨rfl, rfl, rfl, by decide +kernel, rfl, by decide +kernel, by decide +kernel⟩
theorem ok__law_cell_at (D : Dfn K mg "_law_cell_at" s__law_cell_at ["_law_script", "_law_k"]) (T : Tb mg) (EX_ : EX K mg C_BookError C_NoOrder C_NoRoom C_NoRow C_NoName C_NoText) (CB : DL.BkC K C_Book) : Cl P w K mg base CX0 1 "_law_cell_at" (spF K R__law_cell_at) := by
  refine cl_F (k := 0) D sc__law_cell_at len__law_cell_at fun f cdv A outer s H E hr => ⟨_, (pss_cons (ps_if (pt_cmpR op_lt (pv 1) (pe_callB (DL.k_len_seq K) rfl T.len_ (by decide +kernel) (pa_cons (pv 0) pa_nil)) (nomark _)) (pss_one (ps_ret (pe_ix (DL.k_ix_list K) (pv 0) (pv 1) (fun _ _ => rfl)))) pss_nil)
      (pss_one (ps_ret pe_int))), ?_⟩
  rintro Q c _ _ ⟨ns, k, rfl, hk, rfl⟩ hQ
  show Go c c.H0 _ _ [_, _]
  refine q_when (x := decide (k < (ns.length : Int))) ?_ (fun hb => ?_) fun hb => ?_
  · have e : ((ns.map PyData.int).length : Int) = ns.length := by rw [List.length_map]
    rw [← e]
    exact (by walk_at "dl")
  · have hb := of_decide_eq_true hb
    have hk2 : k.toNat < ns.length := by omega
    have a1 : atI (ns.map PyData.int) k = some (.int (cellZ ns k)) := atI_mapS (atI_natI hk (by unfold cellZ; simp [hk2]))
    exact go_ret (d := .int (cellZ ns k)) (EvR.sca (by walk_at "dl") rfl) hQ
  · have hb := of_decide_eq_false hb
    have e : cellZ ns k = 0 := by unfold cellZ; simp; rw [List.getElem?_eq_none (by omega)]; rfl
    rw [e] at hQ
    exact go_ret ev_int hQ
def szC (z : Int) : Int := 1 + mixZ z 1 % 8
def atC (z : Int) : Int := mixZ z 2 % szC z
def chI (z : Int) (k j : Nat) : Int := (mixZ (z + (j : Int) * (j : Int)) 3 + (k : Int) * (if decide ((j : Int) = atC z) then 1 else 0)) % 26
def chC (z : Int) (k j : Nat) : Nat := 97 + (chI z k j).toNat
def nameC (z : Int) (k : Nat) : Str := SX.S ((List.range (szC z).toNat).map (chC z k))
theorem szC_b (z : Int) : 1 ≤ szC z ∧ szC z ≤ 8 := by
  unfold szC
  have h0 := Int.emod_nonneg (mixZ z 1) (show (8 : Int) ≠ 0 by decide)
  have h1 := Int.emod_lt_of_pos (mixZ z 1) (show (0 : Int) < 8 by decide)
  omega
theorem atC_b (z : Int) : 0 ≤ atC z ∧ atC z < szC z := by
  have := szC_b z
  exact ⟨Int.emod_nonneg _ (by omega), Int.emod_lt_of_pos _ (by omega)⟩
theorem chI_b (z : Int) (k j : Nat) : 0 ≤ chI z k j ∧ chI z k j < 26 := ⟨Int.emod_nonneg _ (by decide), Int.emod_lt_of_pos _ (by decide)⟩
theorem lett_at : ∀ i : Nat, i < 26 → lettersZ.cps.toList[i]? = some (97 + i) := by
  have e : lettersZ.cps.toList = letts.cps.toList := rfl
  rw [e, letts_tl]
  decide
theorem nameC_ok (z : Int) (k : Nat) : nameZ (nameC z k) = true := by
  have b := szC_b z
  have hl : (nameC z k).length = (szC z).toNat := by unfold nameC; rw [SX.S_len, List.length_map, List.length_range]
  unfold nameZ
  rw [hl, Bool.and_eq_true]
  refine ⟨by simp; omega, ?_⟩
  unfold allZ
  refine List.all_eq_true.mpr fun n hn => ?_
  have hn : n ∈ (List.range (szC z).toNat).map (chC z k) := hn
  obtain ⟨j, _, rfl⟩ := List.mem_map.mp hn
  have c := chI_b z k j
  refine decide_eq_true ?_
  have := lett_at (chI z k j).toNat (by omega)
  exact List.mem_of_getElem? this
theorem nameC_inj {z : Int} {k k' : Nat} (hk : k < 26) (hk' : k' < 26) (h : nameC z k = nameC z k') : k = k' := by
  have hL : (List.range (szC z).toNat).map (chC z k) = (List.range (szC z).toNat).map (chC z k') := by
    have := congrArg (fun x : Str => x.cps.toList) h
    exact this
  have a := atC_b z
  have b := szC_b z
  have e : ((List.range (szC z).toNat).map (chC z k))[(atC z).toNat]? = ((List.range (szC z).toNat).map (chC z k'))[(atC z).toNat]? := by rw [hL]
  have hr : (List.range (szC z).toNat)[(atC z).toNat]? = some (atC z).toNat := by rw [List.getElem?_range (by omega)]
  rw [List.getElem?_map, List.getElem?_map, hr] at e
  have e : chC z k (atC z).toNat = chC z k' (atC z).toNat := by simpa using e
  unfold chC at e
  have c1 := chI_b z k (atC z).toNat
  have c2 := chI_b z k' (atC z).toNat
  have e2 : chI z k (atC z).toNat = chI z k' (atC z).toNat := by omega
  unfold chI at e2
  have ht : (((atC z).toNat : Int) = atC z) := by omega
  rw [ht, decide_eq_true rfl] at e2
  simp only [if_true, Int.mul_one] at e2
  omega
def P__law_names (ds : List PyData) : Prop := ∃ z : Int, ds = [.int z] ∧ Sz 1048576 z
def R__law_names (ds : List PyData) (r : PyData) : Prop := ∀ z : Int, ds = [.int z] → r = .list (((List.range 9).map (nameC z)).map PyData.str)
theorem len__law_names (ds : List PyData) (h : P__law_names ds) : ds.length = 1 := by obtain ⟨_, rfl, _⟩ := h; rfl

abbrev N__law_names : List Str := ["_law_cell", "_law_letters", "_law_size", "_law_at", "_law_names_here", "_law_k", "_law_name", "_law_j"]
theorem sc__law_names : FnScope N__law_names ["_law_cell"] (defScope s__law_names) := ⟨rfl, rfl, rfl, by decide +kernel, rfl, by decide +kernel, by decide +kernel⟩
theorem ok__law_names (D : Dfn K mg "_law_names" s__law_names ["_law_cell"]) (T : Tb mg) (EX_ : EX K mg C_BookError C_NoOrder C_NoRoom C_NoRow C_NoName C_NoText) (CB : DL.BkC K C_Book) (c__law_mix : Cl P w K mg base CX0 1 "_law_mix" (spF K R__law_mix)) : Cl P w K mg base CX0 2 "_law_names" (spN K P__law_names R__law_names) := by
  refine cl_N (k := 1) D sc__law_names len__law_names fun f cdv A outer s H E hr => ⟨_, (pss_cons (ps_set (i := 1) sc__law_names.nd rfl (Or.inl rfl) pe_str)
      (pss_cons (ps_set (i := 2) sc__law_names.nd rfl (Or.inl rfl) (pe_op op_add pe_int (pe_op op_mod (DL.pe_cl c__law_mix (hr.mono (by decide)) rfl pass0 (pa_cons (pv 0) (pa_cons pe_int pa_nil))) pe_int)))
      (pss_cons (ps_set (i := 3) sc__law_names.nd rfl (Or.inl rfl) (pe_op op_mod (DL.pe_cl c__law_mix (hr.mono (by decide)) rfl pass0 (pa_cons (pv 0) (pa_cons pe_int pa_nil))) (pv 2)))
      (pss_cons (ps_set (i := 4) sc__law_names.nd rfl (Or.inl rfl) (pe_lst pa_nil))
      (pss_cons (ps_for PassesOwn.never rfl (pi_range1 rfl T.range_ (pa_cons pe_int pa_nil)) (pg_name (i := 5) sc__law_names.nd rfl (Or.inl rfl)) (pss_cons (ps_set (i := 6) sc__law_names.nd rfl (Or.inl rfl) pe_str)
      (pss_cons (ps_for PassesOwn.never rfl (pi_range1 rfl T.range_ (pa_cons (pv 2) pa_nil)) (pg_name (i := 7) sc__law_names.nd rfl (Or.inl rfl)) (pss_one (ps_set (i := 6) sc__law_names.nd rfl (Or.inl rfl) (pe_op op_add_str (pv 6) (pe_ix ix_str (pv 1) (pe_op op_mod (pe_op op_add (DL.pe_cl c__law_mix (hr.mono (by decide)) rfl pass0 (pa_cons (pe_op op_add (pv 0) (pe_op DL.op_mulB (pv 7) (pv 7))) (pa_cons pe_int pa_nil))) (pe_op DL.op_mulB (pv 5) (pe_callTy call_int1 rfl T.int_ (by decide +kernel) (pa_cons (pe_cmpR op_eq (pv 7) (pv 3) (nomark _)) pa_nil)))) pe_int) (fun _ _ => rfl))))))
      (pss_one (ps_expr (DL.k_bm K PySem.F.plainAttrs_list PySem.F.slot_list_append PySem.F.type_list_append mt_append (pv 4) (pa_cons (pv 6) pa_nil)))))))
      (pss_one (ps_ret (pv 4)))))))), ?_⟩
  rintro Q c _ ⟨z, rfl, hz⟩ hQ
  show Go c c.H0 _ _ [_, Sl.no, Sl.no, Sl.no, Sl.no, Sl.no, Sl.no, Sl.no]
  have b := szC_b z
  have at_ := atC_b z
  obtain ⟨n, hn⟩ := nat_of (show 0 ≤ szC z by omega)
  have hn8 : n ≤ 8 := by omega
  have szn : Sz 64 (szC z) := ⟨by omega⟩
  refine q_val (b := false) (d := .str lettersZ) ev_str ?_
  walk_at "nm"
  refine q_val (b := false) (d := .int (szC z)) (show Ev _ _ _ _ (.int (1 + mixZ z 1 % 8)) from (by walk_at "dl")) ?_
  walk_at "nm"
  refine q_val (b := false) (d := .int (atC z)) (ev_opI (C := fun _ j => 0 < j) (g := fun i j => .int (i % j)) (i := mixZ z 2) (j := szC z) (by walk_at "dl") (er_var rfl) (by omega) (.int _)) ?_
  walk_at "nm"
  refine q_own (b := true) (ds := []) (by walk_at "dl") ?_
  walk_at "nm"
  refine q_forRD (n := 9) (fun _ => True) (fun k => [.val false (.int z), .val false (.str lettersZ), nI (szC z), nI (atC z), .own true (((List.range k).map (nameC z)).map PyData.str), .no, .no, .no]) (by walk_at "dl") (by decide) trivial (by walk_at "le") (fun k hk _ => ⟨_, _, tg_name, ?_⟩) fun _ => ?_
  · walk_at "nm"
    refine q_val (b := true) (d := .str (SX.S [])) (Ev.is ev_str (congrArg PyData.str (TL.ext_tl (by decide +kernel)))) ?_
    walk_at "nm"
    refine q_forRD (n := n) (fun _ => True) (fun j => [.val false (.int z), .val false (.str lettersZ), nI (szC z), nI (atC z), .own true (((List.range k).map (nameC z)).map PyData.str), nI (k : Int), .val true (.str (SX.S ((List.range j).map (chC z k)))), .no]) (ea_cons (Ev.r (b := false) (Ev.is (ev_var rfl) (by rw [hn]))) ea_nil) (by omega) trivial (by walk_at "le") (fun j hj _ => ⟨_, _, tg_name, ?_⟩) fun _ => ?_
    · walk_at "nm"
      have c1 := chI_b z k j
      have sj : Sz 64 (j : Int) := ⟨by omega⟩
      have sk : Sz 64 (k : Int) := ⟨by omega⟩
      have sx : Sz 1048577 (z + (j : Int) * (j : Int)) := (hz.add (y := (j : Int) * (j : Int)) ((Sz.mul sj sj).mono (by decide)))
      have hat : atI lettersZ.cps.toList (chI z k j) = some (chC z k j) := by
        refine atI_natI c1.1 ?_
        exact lett_at _ (by omega)
      have si : Sz 64 (if decide ((j : Int) = atC z) then (1 : Int) else 0) := by split <;> exact ⟨by decide⟩
      refine go_val (b := true) (d := .str (SX.S ((List.range j).map (chC z k)) ++ ⟨#[chC z k j]⟩)) (ev_addS (er_var rfl) (Ev.r (b := false) (ev_ixS (z := lettersZ) (i := chI z k j) (er_var rfl) (Ev.r (b := false) (ev_opI (C := fun _ j => 0 < j) (g := fun i j => .int (i % j)) (i := mixZ (z + (j : Int) * (j : Int)) 3 + (k : Int) * (if decide ((j : Int) = atC z) then 1 else 0)) (j := 26) (Ev.r (b := false) (ev_op0 (i := mixZ (z + (j : Int) * (j : Int)) 3) (j := (k : Int) * (if decide ((j : Int) = atC z) then 1 else 0)) (Ev.r (b := false) (ev_call (ds := [.int (z + (j : Int) * (j : Int)), .int 3]) (by walk_at "dl") (mix_is sx (by exact ⟨by decide⟩) (by decide)))) (Ev.r (b := false) (ev_opI (C := DL.CMulB) (g := fun i j => .int (i * j)) (er_var rfl) (Ev.r (b := false) (ev_intB (by walk_at "dl"))) (Sz.mulB sk si (by decide)) (.int _))) (.int _))) (by walk_at "dl") (by decide) (.int _))) (by decide +kernel) hat)) (by rw [SX.S_len, List.length_map, List.length_range]; show j + 1 ≤ _; omega)) (nx_turn trivial ?_)
      have e : (SX.S ((List.range j).map (chC z k)) ++ ⟨#[chC z k j]⟩ : Str) = SX.S ((List.range (j + 1)).map (chC z k)) := TL.ext_tl (by rw [TL.tl_append, List.range_succ, List.map_append]; rfl)
      rw [e]
      walk_at "le"
    · have e : SX.S ((List.range n).map (chC z k)) = nameC z k := by unfold nameC; rw [hn]; rfl
      rw [e]
      refine go_app (b := true) (d := .str (nameC z k)) rfl (ev_var rfl) (by rw [List.length_map, List.length_map, List.length_range]; omega) (nx_turn trivial ?_)
      have e2 : ((List.range (k + 1)).map (nameC z)).map PyData.str = ((List.range k).map (nameC z)).map PyData.str ++ [.str (nameC z k)] := by rw [List.range_succ, List.map_append, List.map_append]; rfl
      rw [e2]
      walk_at "le"
  · exact go_retO rfl (hQ _ fun z' e => by
      injection e with e _
      injection e with e
      rw [e])
local macro_rules
  | `(tactic| walk_at "zs") => `(tactic| first | (with_reducible assumption) | ((with_reducible apply DL.SzS.add) <;> walk_at "zs") | exact (DL.SzS.mk (n := 40) (by decide +kernel)))
theorem cut_sub {z : Str} {lo hi : Option Int} {n : Nat} (h : n ∈ (cutS z lo hi).cps.toList) : n ∈ z.cps.toList := List.mem_of_mem_drop (List.mem_of_mem_take (show n ∈ (z.cps.toList.drop _).take _ from h))
def NoN (m : Str) : Prop := nameZ m = false ∧ SzS 20 m ∧ NoB m
theorem non_end {a : Str} (h : nameZ a = true) (lo hi : Option Int) {y : Str} {n : Nat} (hy : y.cps.toList = [n]) (hn : n < 97) (h2 : n ≠ 32) : NoN (cutS a lo hi ++ y) := by
  have hl := cutS_length a lo hi
  have h8 := (name_of h).2.1
  have yl : y.length = 1 := by rw [← toL_len, hy]; rfl
  have et : (cutS a lo hi ++ y).cps.toList = (cutS a lo hi).cps.toList ++ [n] := by
    have := TL.tl_append (cutS a lo hi) y
    rw [← hy]
    exact this
  refine ⟨?_, ⟨by rw [addZ_len]; omega⟩, ⟨fun q => ?_⟩⟩
  · cases e : nameZ (cutS a lo hi ++ y) with
    | false => rfl
    | true =>
      have := (name_of e).2.2 n (by rw [et]; simp)
      omega
  · rw [et] at q
    rcases List.mem_append.mp q with q | q
    · have := (name_of h).2.2 32 (cut_sub q)
      omega
    · rw [List.mem_singleton] at q
      exact h2 q.symm
def P__law_no_name (ds : List PyData) : Prop := ∃ (a : Str) (z : Int), ds = [.str a, .int z] ∧ nameZ a = true ∧ Sz 1048576 z
def R__law_no_name (ds : List PyData) (r : PyData) : Prop := ∃ m : Str, r = .str m ∧ NoN m
theorem len__law_no_name (ds : List PyData) (h : P__law_no_name ds) : ds.length = 2 := by obtain ⟨_, _, rfl, _⟩ := h; rfl

abbrev N__law_no_name : List Str := ["_law_name", "_law_cell"]
theorem sc__law_no_name : FnScope N__law_no_name ["_law_name", "_law_cell"] (defScope s__law_no_name) := ⟨rfl, rfl, rfl, by decide +kernel, rfl, by decide +kernel, by decide +kernel⟩
theorem ok__law_no_name (D : Dfn K mg "_law_no_name" s__law_no_name ["_law_name", "_law_cell"]) (T : Tb mg) (EX_ : EX K mg C_BookError C_NoOrder C_NoRoom C_NoRow C_NoName C_NoText) (CB : DL.BkC K C_Book) (c__law_mix : Cl P w K mg base CX0 1 "_law_mix" (spF K R__law_mix)) : Cl P w K mg base CX0 2 "_law_no_name" (spN K P__law_no_name R__law_no_name) := by
  refine cl_N (k := 1) D sc__law_no_name len__law_no_name fun f cdv A outer s H E hr => ⟨_, (pss_one (ps_ret (pe_ix (DL.k_ix_list K) (pe_lst (pa_cons pe_str (pa_cons (pe_op op_add_str (pv 0) pe_str) (pa_cons (pe_op op_add_str (pe_slice sl_str (pv 0) (po_some pe_int) po_none) pe_str) (pa_cons (pe_op op_add_str (pe_slice sl_str (pv 0) po_none (po_some (pe_un un_neg pe_int))) pe_str) (pa_cons (pe_op op_add_str (pe_slice sl_str (pv 0) (po_some pe_int) po_none) pe_str) pa_nil)))))) (pe_op op_mod (DL.pe_cl c__law_mix (hr.mono (by decide)) rfl pass0 (pa_cons (pv 1) (pa_cons pe_int pa_nil))) pe_int) (fun _ _ => rfl)))), ?_⟩
  rintro Q c _ ⟨a, z, rfl, na, hz⟩ hQ
  show Go c c.H0 _ _ [_, _]
  have la := name_sz na
  have sl : ∀ {lo hi : Option Int} (y : Str), SzS 40 y → (cutS a lo hi ++ y).length ≤ 100000 := fun {lo hi} y hy => by
    have := cutS_length a lo hi
    have := la.h
    have := hy.h
    rw [addZ_len]; omega
  have add : ∀ {ta : TE} {lo hi : Option Int} (y : Str), SzS 40 y → Ev c false ta [.val false (.str a), .val false (.int z)] (.str (cutS a lo hi)) → Ev c false (tOp (fun x y H Q => ∃ i j, x = V.str i ∧ y = V.str j ∧ i.length + j.length ≤ sizeLine ∧ Q (.str (i ++ j)) H) ta (tC (.str y))) [.val false (.str a), .val false (.int z)] (.str (cutS a lo hi ++ y)) := fun {ta lo hi} y hy h => ev_addS (Ev.r h) (Ev.r (b := false) ev_str) (by have := sl (lo := lo) (hi := hi) y hy; rw [addZ_len] at this; exact this)
  have f1 : Ev c false (tSl rSlS (tVar 0) (tPart (tC (.int 1))) tNoPart) [.val false (.str a), .val false (.int z)] (.str (cutS a (some 1) none)) := ev_slS (er_var rfl) (eo_some (Ev.r (b := false) ev_int)) eo_none (by have := la.h; omega)
  have f2 : Ev c false (tSl rSlS (tVar 0) tNoPart (tPart (tUn (rU fun i => .int (-i)) (tC (.int 1))))) [.val false (.str a), .val false (.int z)] (.str (cutS a none (some (-1)))) := ev_slS (er_var rfl) eo_none (eo_some (Ev.r (b := false) (ev_un (i := 1) (Ev.r (b := false) ev_int) (.int (-1))))) (by have := la.h; omega)
  have k1 : SzS 40 (Str.ofString "A") := ⟨by decide +kernel⟩
  have k2 : SzS 40 (Str.ofString "1") := ⟨by decide +kernel⟩
  have k3 : SzS 40 (Str.ofString "-") := ⟨by decide +kernel⟩
  refine go_retEN (P := fun d => ∃ m : Str, d = .str m ∧ NoN m) ?_ fun d hd => hQ d hd
  refine EvN.sca (en_pick (b := false) (ds := [.str "", .str (a ++ "abcdefgh"), .str (cutS a (some 1) none ++ "A"), .str (cutS a none (some (-1)) ++ "1"), .str (cutS a (some 1) none ++ "-")]) (EvL.e (el_lst (ef_cons ev_str (ef_cons (ev_addB (er_var rfl) (Ev.r (b := false) ev_str) (by walk_at "zs") (by decide)) (ef_cons (add _ k1 f1) (ef_cons (add _ k2 f2) (ef_cons (add _ k3 f1) ef_nil))))) (Nat.le_of_ble_eq_true rfl))) (Ev.r (b := false) (show Ev c false _ _ (.int (mixZ z 4 % 5)) from (by walk_at "dl"))) (Int.emod_nonneg _ (by decide)) (Int.emod_lt_of_pos _ (by decide)) fun d hd => ?_) fun d hd => ?_
  · simp only [List.mem_cons, List.not_mem_nil, or_false] at hd
    rcases hd with rfl | rfl | rfl | rfl | rfl
    · exact ⟨_, rfl, by decide +kernel, ⟨by decide +kernel⟩, ⟨by decide +kernel⟩⟩
    · refine ⟨_, rfl, ?_, ⟨SzS.le (m := 8 + 12) (la.add ⟨by decide +kernel⟩) (by decide)⟩, (name_noB na).add ⟨by decide +kernel⟩⟩
      cases e : nameZ (a ++ "abcdefgh") with
      | false => rfl
      | true =>
        have h1 := (name_of e).2.1
        have h2 := (name_of na).1
        have h3 : (Str.ofString "abcdefgh").length = 8 := by decide +kernel
        rw [addZ_len, h3] at h1
        omega
    · exact ⟨_, rfl, non_end na _ _ (n := 65) (by decide +kernel) (by decide) (by decide)⟩
    · exact ⟨_, rfl, non_end na _ _ (n := 49) (by decide +kernel) (by decide) (by decide)⟩
    · exact ⟨_, rfl, non_end na _ _ (n := 45) (by decide +kernel) (by decide) (by decide)⟩
  · obtain ⟨m, rfl, _⟩ := hd
    rfl
def rowD (p : Str × Int) : PyData := .tuple [.str p.1, .int p.2]
def rowsL (rows : List (Str × Int)) : PyData := .list (rows.map rowD)
def rW (a u : Str) : List (Str × Int) := ((((rW0 a u) ++ rW1 a u) ++ rW2 a u) ++ rW3 a u).map (fun r => (r, 1)) ++ rW4 a u
def P__law_of_words (ds : List PyData) : Prop := ∃ a u : Str, ds = [.str a, .str u] ∧ nameZ a = true ∧ nameZ u = true
def R__law_of_words (ds : List PyData) (r : PyData) : Prop := ∀ a u : Str, ds = [.str a, .str u] → r = rowsL (rW a u)
theorem len__law_of_words (ds : List PyData) (h : P__law_of_words ds) : ds.length = 2 := by obtain ⟨_, _, rfl, _⟩ := h; rfl
theorem mapT (rows : List Str) (k : Int) : ((rows.filter fun _ => true).map fun r => PyData.tuple [.str r, .int k]) = (rows.map (fun r => (r, k))).map rowD := by rw [lc_all, List.map_map]; rfl

abbrev N__law_of_words : List Str := ["_law_a", "_law_u", "_law_rows", "_law_found", "_law_row"]
theorem sc__law_of_words : FnScope N__law_of_words ["_law_a", "_law_u"] (defScope s__law_of_words) := ⟨rfl, rfl, rfl, by decide +kernel, rfl, by decide +kernel, by decide +kernel⟩
theorem ok__law_of_words (D : Dfn K mg "_law_of_words" s__law_of_words ["_law_a", "_law_u"]) (T : Tb mg) (EX_ : EX K mg C_BookError C_NoOrder C_NoRoom C_NoRow C_NoName C_NoText) (CB : DL.BkC K C_Book) : Cl P w K mg base CX0 1 "_law_of_words" (spN K P__law_of_words R__law_of_words) := by
  refine cl_N (k := 0) D sc__law_of_words len__law_of_words fun f cdv A outer s H E hr => ⟨_, (pss_cons (ps_set (i := 2) sc__law_of_words.nd rfl (Or.inl rfl) (pe_lst (pa_cons pe_str (pa_cons pe_str (pa_cons pe_str (pa_cons pe_str (pa_cons pe_str (pa_cons pe_str (pa_cons (pe_op op_add_str (pe_op op_add_str pe_str (pv 1)) pe_str) (pa_cons (pe_op op_add_str (pe_op op_add_str pe_str (pv 0)) pe_str) pa_nil))))))))))
      (pss_cons (ps_set (i := 2) sc__law_of_words.nd rfl (Or.inl rfl) (pe_op DL.op_catR (pv 2) (pe_lst (pa_cons (pe_op op_add_str pe_str (pv 0)) (pa_cons (pe_op op_add_str (pe_op op_add_str (pe_op op_add_str (pe_op op_add_str (pe_op op_add_str pe_str (pv 0)) pe_str) (pv 0)) pe_str) (pv 0)) (pa_cons (pe_op op_add_str pe_str (pv 0)) (pa_cons pe_str (pa_cons (pe_op op_add_str (pe_op op_add_str (pe_op op_add_str pe_str (pv 0)) pe_str) (pv 0)) pa_nil))))))))
      (pss_cons (ps_set (i := 2) sc__law_of_words.nd rfl (Or.inl rfl) (pe_op DL.op_catR (pv 2) (pe_lst (pa_cons pe_str (pa_cons (pe_op op_add_str (pe_op op_add_str pe_str (pv 0)) pe_str) (pa_cons pe_str (pa_cons pe_str (pa_cons (pe_op op_add_str pe_str (pv 0)) (pa_cons pe_str (pa_cons pe_str pa_nil))))))))))
      (pss_cons (ps_set (i := 2) sc__law_of_words.nd rfl (Or.inl rfl) (pe_op DL.op_catR (pv 2) (pe_lst (pa_cons pe_str (pa_cons pe_str (pa_cons pe_str (pa_cons pe_str (pa_cons (pe_op op_add_str (pv 1) pe_str) (pa_cons pe_str (pa_cons pe_str (pa_cons pe_str pa_nil)))))))))))
      (pss_cons (ps_setLc (i := 3) rfl sc__law_of_words.nd rfl rfl (sw_true rfl rfl rfl (by decide +kernel)) (own := [("_law_row", 4)]) (DL.k_pi_list K (pv 2)) (blkOk_by (N := N__law_of_words) (sc := defScope s__law_of_words) (by decide +kernel)) (fun _ _ _ _ _ => (pg_name (i := 4) sc__law_of_words.nd rfl (by first | exact Or.inl rfl | exact Or.inr rfl))) (fun _ _ _ _ _ => pts_nil) (fun _ _ _ _ _ => (pe_tup (pa_cons (pv 4) (pa_cons pe_int pa_nil)))))
      (pss_one (ps_ret (pe_op DL.op_catR (pv 3) (pe_lst (pa_cons (pe_tup (pa_cons pe_str (pa_cons pe_int pa_nil))) (pa_cons (pe_tup (pa_cons pe_str (pa_cons pe_int pa_nil))) (pa_cons (pe_tup (pa_cons pe_str (pa_cons pe_int pa_nil))) (pa_cons (pe_tup (pa_cons pe_str (pa_cons pe_int pa_nil))) pa_nil))))))))))))), ?_⟩
  rintro Q c _ ⟨a, u, rfl, na, nu⟩ hQ
  show Go c c.H0 _ _ [_, _, Sl.no, Sl.no, Sl.no]
  have la := name_sz na
  have lu := name_sz nu
  refine q_val (b := true) (d := .list ((rW0 a u).map PyData.str)) (EvL.ev (el_lst (ds := (rW0 a u).map PyData.str) (ef_cons ev_str (ef_cons ev_str (ef_cons ev_str (ef_cons ev_str (ef_cons ev_str (ef_cons ev_str (ef_cons (ev_addB (Ev.r (b := false) (ev_addB (Ev.r (b := false) ev_str) (Ev.r (b := false) (ev_varS rfl rfl)) (by walk_at "zs") (by decide))) (Ev.r (b := false) ev_str) (by walk_at "zs") (by decide)) (ef_cons (ev_addB (Ev.r (b := false) (ev_addB (Ev.r (b := false) ev_str) (Ev.r (b := false) (ev_varS rfl rfl)) (by walk_at "zs") (by decide))) (Ev.r (b := false) ev_str) (by walk_at "zs") (by decide)) ef_nil)))))))) (Nat.le_of_ble_eq_true rfl))) ?_
  walk_at "nm"
  refine q_val (b := true) (d := .list (((rW0 a u) ++ rW1 a u).map PyData.str)) (Ev.is (d := .list ((rW0 a u).map PyData.str ++ (rW1 a u).map PyData.str)) (EvL.ev (el_cat (Ev.t (ev_var rfl)) (EvL.t (el_lst (ds := (rW1 a u).map PyData.str) (ef_cons (ev_addB (Ev.r (b := false) ev_str) (Ev.r (b := false) (ev_varS rfl rfl)) (by walk_at "zs") (by decide)) (ef_cons (ev_addB (Ev.r (b := false) (ev_addB (Ev.r (b := false) (ev_addB (Ev.r (b := false) (ev_addB (Ev.r (b := false) (ev_addB (Ev.r (b := false) ev_str) (Ev.r (b := false) (ev_varS rfl rfl)) (by walk_at "zs") (by decide))) (Ev.r (b := false) ev_str) (by walk_at "zs") (by decide))) (Ev.r (b := false) (ev_varS rfl rfl)) (by walk_at "zs") (by decide))) (Ev.r (b := false) ev_str) (by walk_at "zs") (by decide))) (Ev.r (b := false) (ev_varS rfl rfl)) (by walk_at "zs") (by decide)) (ef_cons (ev_addB (Ev.r (b := false) ev_str) (Ev.r (b := false) (ev_varS rfl rfl)) (by walk_at "zs") (by decide)) (ef_cons ev_str (ef_cons (ev_addB (Ev.r (b := false) (ev_addB (Ev.r (b := false) (ev_addB (Ev.r (b := false) ev_str) (Ev.r (b := false) (ev_varS rfl rfl)) (by walk_at "zs") (by decide))) (Ev.r (b := false) ev_str) (by walk_at "zs") (by decide))) (Ev.r (b := false) (ev_varS rfl rfl)) (by walk_at "zs") (by decide)) ef_nil))))) (Nat.le_of_ble_eq_true rfl))) (Nat.le_of_ble_eq_true rfl))) (by rw [← List.map_append])) ?_
  walk_at "nm"
  refine q_val (b := true) (d := .list ((((rW0 a u) ++ rW1 a u) ++ rW2 a u).map PyData.str)) (Ev.is (d := .list (((rW0 a u) ++ rW1 a u).map PyData.str ++ (rW2 a u).map PyData.str)) (EvL.ev (el_cat (Ev.t (ev_var rfl)) (EvL.t (el_lst (ds := (rW2 a u).map PyData.str) (ef_cons ev_str (ef_cons (ev_addB (Ev.r (b := false) (ev_addB (Ev.r (b := false) ev_str) (Ev.r (b := false) (ev_varS rfl rfl)) (by walk_at "zs") (by decide))) (Ev.r (b := false) ev_str) (by walk_at "zs") (by decide)) (ef_cons ev_str (ef_cons ev_str (ef_cons (ev_addB (Ev.r (b := false) ev_str) (Ev.r (b := false) (ev_varS rfl rfl)) (by walk_at "zs") (by decide)) (ef_cons ev_str (ef_cons ev_str ef_nil))))))) (Nat.le_of_ble_eq_true rfl))) (Nat.le_of_ble_eq_true rfl))) (by rw [← List.map_append])) ?_
  walk_at "nm"
  refine q_val (b := true) (d := .list (((((rW0 a u) ++ rW1 a u) ++ rW2 a u) ++ rW3 a u).map PyData.str)) (Ev.is (d := .list ((((rW0 a u) ++ rW1 a u) ++ rW2 a u).map PyData.str ++ (rW3 a u).map PyData.str)) (EvL.ev (el_cat (Ev.t (ev_var rfl)) (EvL.t (el_lst (ds := (rW3 a u).map PyData.str) (ef_cons ev_str (ef_cons ev_str (ef_cons ev_str (ef_cons ev_str (ef_cons (ev_addB (Ev.r (b := false) (ev_varS rfl rfl)) (Ev.r (b := false) ev_str) (by walk_at "zs") (by decide)) (ef_cons ev_str (ef_cons ev_str (ef_cons ev_str ef_nil)))))))) (Nat.le_of_ble_eq_true rfl))) (Nat.le_of_ble_eq_true rfl))) (by rw [← List.map_append])) ?_
  walk_at "nm"
  refine q_val (b := true) (d := .list ((((((rW0 a u) ++ rW1 a u) ++ rW2 a u) ++ rW3 a u).map (fun r => (r, (1 : Int)))).map rowD)) (EvL.ev (EvL.is (el_lc (b0 := true) (xs := ((((rW0 a u) ++ rW1 a u) ++ rW2 a u) ++ rW3 a u)) (enc := PyData.str) (js := [4]) (fun _ => true) (fun r => .tuple [.str r, .int 1]) (Ev.e (ev_var rfl)) (Nat.le_of_ble_eq_true rfl) (by simp) fun r hr => ⟨_, tg_name, eb_yes, fun _ => ev_tup (ef_cons (ev_var rfl) (ef_cons ev_int ef_nil)) (Nat.le_of_ble_eq_true rfl)⟩) (mapT _ 1))) ?_
  walk_at "nm"
  refine go_ret (d := rowsL (rW a u)) (Ev.is (d := .list ((((((rW0 a u) ++ rW1 a u) ++ rW2 a u) ++ rW3 a u).map (fun r => (r, (1 : Int)))).map rowD ++ (rW4 a u).map rowD)) (EvL.ev (el_cat (Ev.t (ev_var rfl)) (EvL.t (el_lst (ds := (rW4 a u).map rowD) (ef_cons (ev_tup (ds := [_, _]) (ef_cons ev_str (ef_cons ev_int ef_nil)) (Nat.le_of_ble_eq_true rfl)) (ef_cons (ev_tup (ds := [_, _]) (ef_cons ev_str (ef_cons ev_int ef_nil)) (Nat.le_of_ble_eq_true rfl)) (ef_cons (ev_tup (ds := [_, _]) (ef_cons ev_str (ef_cons ev_int ef_nil)) (Nat.le_of_ble_eq_true rfl)) (ef_cons (ev_tup (ds := [_, _]) (ef_cons ev_str (ef_cons ev_int ef_nil)) (Nat.le_of_ble_eq_true rfl)) ef_nil)))) (Nat.le_of_ble_eq_true rfl))) (Nat.le_of_ble_eq_true rfl))) (by rw [← List.map_append]; rfl)) (hQ _ fun a' u' e => by
    injection e with e1 e
    injection e with e2 _
    injection e1 with e1
    injection e2 with e2
    rw [e1, e2])
def rN (a u m : Str) : List (Str × Int) := (((rN0 a u m) ++ rN1 a u m) ++ rN2 a u m).map (fun r => (r, 2))
def P__law_of_names (ds : List PyData) : Prop := ∃ a u m : Str, ds = [.str a, .str u, .str m] ∧ nameZ a = true ∧ nameZ u = true ∧ SzS 20 m
def R__law_of_names (ds : List PyData) (r : PyData) : Prop := ∀ a u m : Str, ds = [.str a, .str u, .str m] → r = rowsL (rN a u m)
theorem len__law_of_names (ds : List PyData) (h : P__law_of_names ds) : ds.length = 3 := by obtain ⟨_, _, _, rfl, _⟩ := h; rfl

abbrev N__law_of_names : List Str := ["_law_a", "_law_u", "_law_m", "_law_rows", "_law_row"]
theorem sc__law_of_names : FnScope N__law_of_names ["_law_a", "_law_u", "_law_m"] (defScope s__law_of_names) := ⟨rfl, rfl, rfl, by decide +kernel, rfl, by decide +kernel, by decide +kernel⟩
theorem ok__law_of_names (D : Dfn K mg "_law_of_names" s__law_of_names ["_law_a", "_law_u", "_law_m"]) (T : Tb mg) (EX_ : EX K mg C_BookError C_NoOrder C_NoRoom C_NoRow C_NoName C_NoText) (CB : DL.BkC K C_Book) : Cl P w K mg base CX0 1 "_law_of_names" (spN K P__law_of_names R__law_of_names) := by
  refine cl_N (k := 0) D sc__law_of_names len__law_of_names fun f cdv A outer s H E hr => ⟨_, (pss_cons (ps_set (i := 3) sc__law_of_names.nd rfl (Or.inl rfl) (pe_lst (pa_cons (pe_op op_add_str (pe_op op_add_str pe_str (pv 2)) pe_str) (pa_cons (pe_op op_add_str (pe_op op_add_str pe_str (pv 2)) pe_str) (pa_cons (pe_op op_add_str (pe_op op_add_str (pe_op op_add_str pe_str (pv 1)) pe_str) (pv 0)) (pa_cons (pe_op op_add_str (pe_op op_add_str (pe_op op_add_str pe_str (pv 0)) pe_str) (pv 1)) pa_nil))))))
      (pss_cons (ps_set (i := 3) sc__law_of_names.nd rfl (Or.inl rfl) (pe_op DL.op_catR (pv 3) (pe_lst (pa_cons (pe_op op_add_str (pe_op op_add_str (pe_op op_add_str pe_str (pv 2)) pe_str) (pv 1)) (pa_cons (pe_op op_add_str (pe_op op_add_str (pe_op op_add_str pe_str (pv 1)) pe_str) (pv 1)) (pa_cons (pe_op op_add_str (pe_op op_add_str (pe_op op_add_str pe_str (pv 1)) pe_str) (pv 0)) (pa_cons (pe_op op_add_str (pe_op op_add_str (pe_op op_add_str pe_str (pv 0)) pe_str) (pv 2)) pa_nil)))))))
      (pss_cons (ps_set (i := 3) sc__law_of_names.nd rfl (Or.inl rfl) (pe_op DL.op_catR (pv 3) (pe_lst (pa_cons (pe_op op_add_str pe_str (pv 1)) (pa_cons (pe_op op_add_str pe_str (pv 2)) (pa_cons (pe_op op_add_str pe_str (pv 1)) (pa_cons (pe_op op_add_str pe_str (pv 2)) (pa_cons (pe_op op_add_str (pe_op op_add_str (pe_op op_add_str pe_str (pv 0)) pe_str) (pv 2)) (pa_cons (pe_op op_add_str (pe_op op_add_str pe_str (pv 2)) pe_str) pa_nil)))))))))
      (pss_one (ps_ret (pe_lc (own := [("_law_row", 4)]) rfl sc__law_of_names.nd (DL.k_pi_list K (pv 3)) (blkOk_by (N := N__law_of_names) (sc := defScope s__law_of_names) (by decide +kernel)) (fun _ _ _ _ _ => (pg_name (i := 4) sc__law_of_names.nd rfl (by first | exact Or.inl rfl | exact Or.inr rfl))) (fun _ _ _ _ _ => pts_nil) (fun _ _ _ _ _ => (pe_tup (pa_cons (pv 4) (pa_cons pe_int pa_nil)))))))))), ?_⟩
  rintro Q c _ ⟨a, u, m, rfl, na, nu, lm⟩ hQ
  show Go c c.H0 _ _ [_, _, _, Sl.no, Sl.no]
  have la := name_sz na
  have lu := name_sz nu
  refine q_val (b := true) (d := .list ((rN0 a u m).map PyData.str)) (EvL.ev (el_lst (ds := (rN0 a u m).map PyData.str) (ef_cons (ev_addB (Ev.r (b := false) (ev_addB (Ev.r (b := false) ev_str) (Ev.r (b := false) (ev_varS rfl rfl)) (by walk_at "zs") (by decide))) (Ev.r (b := false) ev_str) (by walk_at "zs") (by decide)) (ef_cons (ev_addB (Ev.r (b := false) (ev_addB (Ev.r (b := false) ev_str) (Ev.r (b := false) (ev_varS rfl rfl)) (by walk_at "zs") (by decide))) (Ev.r (b := false) ev_str) (by walk_at "zs") (by decide)) (ef_cons (ev_addB (Ev.r (b := false) (ev_addB (Ev.r (b := false) (ev_addB (Ev.r (b := false) ev_str) (Ev.r (b := false) (ev_varS rfl rfl)) (by walk_at "zs") (by decide))) (Ev.r (b := false) ev_str) (by walk_at "zs") (by decide))) (Ev.r (b := false) (ev_varS rfl rfl)) (by walk_at "zs") (by decide)) (ef_cons (ev_addB (Ev.r (b := false) (ev_addB (Ev.r (b := false) (ev_addB (Ev.r (b := false) ev_str) (Ev.r (b := false) (ev_varS rfl rfl)) (by walk_at "zs") (by decide))) (Ev.r (b := false) ev_str) (by walk_at "zs") (by decide))) (Ev.r (b := false) (ev_varS rfl rfl)) (by walk_at "zs") (by decide)) ef_nil)))) (Nat.le_of_ble_eq_true rfl))) ?_
  walk_at "nm"
  refine q_val (b := true) (d := .list (((rN0 a u m) ++ rN1 a u m).map PyData.str)) (Ev.is (d := .list ((rN0 a u m).map PyData.str ++ (rN1 a u m).map PyData.str)) (EvL.ev (el_cat (Ev.t (ev_var rfl)) (EvL.t (el_lst (ds := (rN1 a u m).map PyData.str) (ef_cons (ev_addB (Ev.r (b := false) (ev_addB (Ev.r (b := false) (ev_addB (Ev.r (b := false) ev_str) (Ev.r (b := false) (ev_varS rfl rfl)) (by walk_at "zs") (by decide))) (Ev.r (b := false) ev_str) (by walk_at "zs") (by decide))) (Ev.r (b := false) (ev_varS rfl rfl)) (by walk_at "zs") (by decide)) (ef_cons (ev_addB (Ev.r (b := false) (ev_addB (Ev.r (b := false) (ev_addB (Ev.r (b := false) ev_str) (Ev.r (b := false) (ev_varS rfl rfl)) (by walk_at "zs") (by decide))) (Ev.r (b := false) ev_str) (by walk_at "zs") (by decide))) (Ev.r (b := false) (ev_varS rfl rfl)) (by walk_at "zs") (by decide)) (ef_cons (ev_addB (Ev.r (b := false) (ev_addB (Ev.r (b := false) (ev_addB (Ev.r (b := false) ev_str) (Ev.r (b := false) (ev_varS rfl rfl)) (by walk_at "zs") (by decide))) (Ev.r (b := false) ev_str) (by walk_at "zs") (by decide))) (Ev.r (b := false) (ev_varS rfl rfl)) (by walk_at "zs") (by decide)) (ef_cons (ev_addB (Ev.r (b := false) (ev_addB (Ev.r (b := false) (ev_addB (Ev.r (b := false) ev_str) (Ev.r (b := false) (ev_varS rfl rfl)) (by walk_at "zs") (by decide))) (Ev.r (b := false) ev_str) (by walk_at "zs") (by decide))) (Ev.r (b := false) (ev_varS rfl rfl)) (by walk_at "zs") (by decide)) ef_nil)))) (Nat.le_of_ble_eq_true rfl))) (Nat.le_of_ble_eq_true rfl))) (by rw [← List.map_append])) ?_
  walk_at "nm"
  refine q_val (b := true) (d := .list ((((rN0 a u m) ++ rN1 a u m) ++ rN2 a u m).map PyData.str)) (Ev.is (d := .list (((rN0 a u m) ++ rN1 a u m).map PyData.str ++ (rN2 a u m).map PyData.str)) (EvL.ev (el_cat (Ev.t (ev_var rfl)) (EvL.t (el_lst (ds := (rN2 a u m).map PyData.str) (ef_cons (ev_addB (Ev.r (b := false) ev_str) (Ev.r (b := false) (ev_varS rfl rfl)) (by walk_at "zs") (by decide)) (ef_cons (ev_addB (Ev.r (b := false) ev_str) (Ev.r (b := false) (ev_varS rfl rfl)) (by walk_at "zs") (by decide)) (ef_cons (ev_addB (Ev.r (b := false) ev_str) (Ev.r (b := false) (ev_varS rfl rfl)) (by walk_at "zs") (by decide)) (ef_cons (ev_addB (Ev.r (b := false) ev_str) (Ev.r (b := false) (ev_varS rfl rfl)) (by walk_at "zs") (by decide)) (ef_cons (ev_addB (Ev.r (b := false) (ev_addB (Ev.r (b := false) (ev_addB (Ev.r (b := false) ev_str) (Ev.r (b := false) (ev_varS rfl rfl)) (by walk_at "zs") (by decide))) (Ev.r (b := false) ev_str) (by walk_at "zs") (by decide))) (Ev.r (b := false) (ev_varS rfl rfl)) (by walk_at "zs") (by decide)) (ef_cons (ev_addB (Ev.r (b := false) (ev_addB (Ev.r (b := false) ev_str) (Ev.r (b := false) (ev_varS rfl rfl)) (by walk_at "zs") (by decide))) (Ev.r (b := false) ev_str) (by walk_at "zs") (by decide)) ef_nil)))))) (Nat.le_of_ble_eq_true rfl))) (Nat.le_of_ble_eq_true rfl))) (by rw [← List.map_append])) ?_
  walk_at "nm"
  refine go_ret (d := rowsL (rN a u m)) (EvL.ev (EvL.is (el_lc (b0 := true) (xs := (((rN0 a u m) ++ rN1 a u m) ++ rN2 a u m)) (enc := PyData.str) (js := [4]) (fun _ => true) (fun r => .tuple [.str r, .int 2]) (Ev.e (ev_var rfl)) (Nat.le_of_ble_eq_true rfl) (by simp) fun r hr => ⟨_, tg_name, eb_yes, fun _ => ev_tup (ef_cons (ev_var rfl) (ef_cons ev_int ef_nil)) (Nat.le_of_ble_eq_true rfl)⟩) (mapT _ 2))) (hQ _ fun a' u' m' e => by
    injection e with e1 e
    injection e with e2 e
    injection e with e3 _
    injection e1 with e1
    injection e2 with e2
    injection e3 with e3
    rw [e1, e2, e3])
def rT (a b c u : Str) : List (Str × Int) := ((((((rT0 a b c u) ++ rT1 a b c u) ++ rT2 a b c u) ++ rT3 a b c u).map (fun r => (r, 3)) ++ rT4 a b c u) ++ [rTx u]) ++ (rT5 a b c u).map (fun r => (r, 5))
def P__law_of_texts (ds : List PyData) : Prop := ∃ a b c u : Str, ds = [.str a, .str b, .str c, .str u] ∧ nameZ a = true ∧ nameZ b = true ∧ nameZ c = true ∧ nameZ u = true
def R__law_of_texts (ds : List PyData) (r : PyData) : Prop := ∀ a b c u : Str, ds = [.str a, .str b, .str c, .str u] → r = rowsL (rT a b c u)
theorem len__law_of_texts (ds : List PyData) (h : P__law_of_texts ds) : ds.length = 4 := by obtain ⟨_, _, _, _, rfl, _⟩ := h; rfl

abbrev N__law_of_texts : List Str := ["_law_a", "_law_b", "_law_c", "_law_u", "_law_rows", "_law_found", "_law_row"]
theorem sc__law_of_texts : FnScope N__law_of_texts ["_law_a", "_law_b", "_law_c", "_law_u"] (defScope s__law_of_texts) := ⟨rfl, rfl, rfl, by decide +kernel, rfl, by decide +kernel, by decide +kernel⟩
theorem ok__law_of_texts (D : Dfn K mg "_law_of_texts" s__law_of_texts ["_law_a", "_law_b", "_law_c", "_law_u"]) (T : Tb mg) (EX_ : EX K mg C_BookError C_NoOrder C_NoRoom C_NoRow C_NoName C_NoText) (CB : DL.BkC K C_Book) : Cl P w K mg base CX0 1 "_law_of_texts" (spN K P__law_of_texts R__law_of_texts) := by
  refine cl_N (k := 0) D sc__law_of_texts len__law_of_texts fun f cdv A outer s H E hr => ⟨_, (pss_cons (ps_set (i := 4) sc__law_of_texts.nd rfl (Or.inl rfl) (pe_lst (pa_cons (pe_op op_add_str (pe_op op_add_str pe_str (pv 0)) pe_str) (pa_cons (pe_op op_add_str (pe_op op_add_str pe_str (pv 0)) pe_str) (pa_cons (pe_op op_add_str (pe_op op_add_str pe_str (pv 0)) pe_str) (pa_cons (pe_op op_add_str (pe_op op_add_str pe_str (pv 3)) pe_str) pa_nil))))))
      (pss_cons (ps_set (i := 4) sc__law_of_texts.nd rfl (Or.inl rfl) (pe_op DL.op_catR (pv 4) (pe_lst (pa_cons (pe_op op_add_str (pe_op op_add_str pe_str (pv 3)) pe_str) (pa_cons (pe_op op_add_str (pe_op op_add_str pe_str (pv 0)) pe_str) (pa_cons (pe_op op_add_str (pe_op op_add_str pe_str (pv 3)) pe_str) (pa_cons (pe_op op_add_str (pe_op op_add_str pe_str (pv 3)) pe_str) pa_nil)))))))
      (pss_cons (ps_set (i := 4) sc__law_of_texts.nd rfl (Or.inl rfl) (pe_op DL.op_catR (pv 4) (pe_lst (pa_cons pe_str (pa_cons pe_str (pa_cons pe_str (pa_cons pe_str (pa_cons pe_str (pa_cons pe_str pa_nil)))))))))
      (pss_cons (ps_set (i := 4) sc__law_of_texts.nd rfl (Or.inl rfl) (pe_op DL.op_catR (pv 4) (pe_lst (pa_cons pe_str (pa_cons pe_str (pa_cons (pe_op op_add_str pe_str (pe_op DL.op_repS pe_str pe_int)) (pa_cons (pe_op op_add_str (pe_op op_add_str (pe_op op_add_str (pe_op op_add_str pe_str (pv 3)) pe_str) (pe_op DL.op_repS pe_str pe_int)) pe_str) (pa_cons (pe_op op_add_str pe_str (pv 0)) pa_nil))))))))
      (pss_cons (ps_setLc (i := 5) rfl sc__law_of_texts.nd rfl rfl (sw_true rfl rfl rfl (by decide +kernel)) (own := [("_law_row", 6)]) (DL.k_pi_list K (pv 4)) (blkOk_by (N := N__law_of_texts) (sc := defScope s__law_of_texts) (by decide +kernel)) (fun _ _ _ _ _ => (pg_name (i := 6) sc__law_of_texts.nd rfl (by first | exact Or.inl rfl | exact Or.inr rfl))) (fun _ _ _ _ _ => pts_nil) (fun _ _ _ _ _ => (pe_tup (pa_cons (pv 6) (pa_cons pe_int pa_nil)))))
      (pss_cons (ps_set (i := 5) sc__law_of_texts.nd rfl (Or.inl rfl) (pe_op DL.op_catR (pv 5) (pe_lst (pa_cons (pe_tup (pa_cons (pe_op op_add_str (pe_op op_add_str pe_str (pv 3)) pe_str) (pa_cons pe_int pa_nil))) (pa_cons (pe_tup (pa_cons (pe_op op_add_str (pe_op op_add_str pe_str (pv 3)) pe_str) (pa_cons pe_int pa_nil))) pa_nil)))))
      (pss_cons (ps_expr (DL.k_bm K PySem.F.plainAttrs_list PySem.F.slot_list_append PySem.F.type_list_append mt_append (pv 5) (pa_cons (pe_tup (pa_cons (pe_op op_add_str (pe_op op_add_str (pe_op op_add_str (pe_op op_add_str pe_str (pv 3)) pe_str) (pe_op DL.op_repS pe_str pe_int)) pe_str) (pa_cons pe_int pa_nil))) pa_nil)))
      (pss_cons (ps_set (i := 4) sc__law_of_texts.nd rfl (Or.inl rfl) (pe_lst (pa_cons (pe_op op_add_str (pe_op op_add_str (pe_op op_add_str pe_str (pv 0)) pe_str) (pv 0)) (pa_cons (pe_op op_add_str (pe_op op_add_str (pe_op op_add_str pe_str (pv 1)) pe_str) (pv 0)) (pa_cons (pe_op op_add_str (pe_op op_add_str (pe_op op_add_str pe_str (pv 2)) pe_str) (pv 0)) (pa_cons (pe_op op_add_str (pe_op op_add_str (pe_op op_add_str pe_str (pv 2)) pe_str) (pv 1)) pa_nil))))))
      (pss_one (ps_ret (pe_op DL.op_catR (pv 5) (pe_lc (own := [("_law_row", 6)]) rfl sc__law_of_texts.nd (DL.k_pi_list K (pv 4)) (blkOk_by (N := N__law_of_texts) (sc := defScope s__law_of_texts) (by decide +kernel)) (fun _ _ _ _ _ => (pg_name (i := 6) sc__law_of_texts.nd rfl (by first | exact Or.inl rfl | exact Or.inr rfl))) (fun _ _ _ _ _ => pts_nil) (fun _ _ _ _ _ => (pe_tup (pa_cons (pv 6) (pa_cons pe_int pa_nil)))))))))))))))), ?_⟩
  rintro Q c0 _ ⟨a, b, c, u, rfl, na, nb, nc, nu⟩ hQ
  show Go c0 c0.H0 _ _ [_, _, _, _, Sl.no, Sl.no, Sl.no]
  have la := name_sz na
  have lb := name_sz nb
  have lc := name_sz nc
  have lu := name_sz nu
  refine q_val (b := true) (d := .list ((rT0 a b c u).map PyData.str)) (EvL.ev (el_lst (ds := (rT0 a b c u).map PyData.str) (ef_cons (ev_addB (Ev.r (b := false) (ev_addB (Ev.r (b := false) ev_str) (Ev.r (b := false) (ev_varS rfl rfl)) (by walk_at "zs") (by decide))) (Ev.r (b := false) ev_str) (by walk_at "zs") (by decide)) (ef_cons (ev_addB (Ev.r (b := false) (ev_addB (Ev.r (b := false) ev_str) (Ev.r (b := false) (ev_varS rfl rfl)) (by walk_at "zs") (by decide))) (Ev.r (b := false) ev_str) (by walk_at "zs") (by decide)) (ef_cons (ev_addB (Ev.r (b := false) (ev_addB (Ev.r (b := false) ev_str) (Ev.r (b := false) (ev_varS rfl rfl)) (by walk_at "zs") (by decide))) (Ev.r (b := false) ev_str) (by walk_at "zs") (by decide)) (ef_cons (ev_addB (Ev.r (b := false) (ev_addB (Ev.r (b := false) ev_str) (Ev.r (b := false) (ev_varS rfl rfl)) (by walk_at "zs") (by decide))) (Ev.r (b := false) ev_str) (by walk_at "zs") (by decide)) ef_nil)))) (Nat.le_of_ble_eq_true rfl))) ?_
  walk_at "nm"
  refine q_val (b := true) (d := .list (((rT0 a b c u) ++ rT1 a b c u).map PyData.str)) (Ev.is (d := .list ((rT0 a b c u).map PyData.str ++ (rT1 a b c u).map PyData.str)) (EvL.ev (el_cat (Ev.t (ev_var rfl)) (EvL.t (el_lst (ds := (rT1 a b c u).map PyData.str) (ef_cons (ev_addB (Ev.r (b := false) (ev_addB (Ev.r (b := false) ev_str) (Ev.r (b := false) (ev_varS rfl rfl)) (by walk_at "zs") (by decide))) (Ev.r (b := false) ev_str) (by walk_at "zs") (by decide)) (ef_cons (ev_addB (Ev.r (b := false) (ev_addB (Ev.r (b := false) ev_str) (Ev.r (b := false) (ev_varS rfl rfl)) (by walk_at "zs") (by decide))) (Ev.r (b := false) ev_str) (by walk_at "zs") (by decide)) (ef_cons (ev_addB (Ev.r (b := false) (ev_addB (Ev.r (b := false) ev_str) (Ev.r (b := false) (ev_varS rfl rfl)) (by walk_at "zs") (by decide))) (Ev.r (b := false) ev_str) (by walk_at "zs") (by decide)) (ef_cons (ev_addB (Ev.r (b := false) (ev_addB (Ev.r (b := false) ev_str) (Ev.r (b := false) (ev_varS rfl rfl)) (by walk_at "zs") (by decide))) (Ev.r (b := false) ev_str) (by walk_at "zs") (by decide)) ef_nil)))) (Nat.le_of_ble_eq_true rfl))) (Nat.le_of_ble_eq_true rfl))) (by rw [← List.map_append])) ?_
  walk_at "nm"
  refine q_val (b := true) (d := .list ((((rT0 a b c u) ++ rT1 a b c u) ++ rT2 a b c u).map PyData.str)) (Ev.is (d := .list (((rT0 a b c u) ++ rT1 a b c u).map PyData.str ++ (rT2 a b c u).map PyData.str)) (EvL.ev (el_cat (Ev.t (ev_var rfl)) (EvL.t (el_lst (ds := (rT2 a b c u).map PyData.str) (ef_cons ev_str (ef_cons ev_str (ef_cons ev_str (ef_cons ev_str (ef_cons ev_str (ef_cons ev_str ef_nil)))))) (Nat.le_of_ble_eq_true rfl))) (Nat.le_of_ble_eq_true rfl))) (by rw [← List.map_append])) ?_
  walk_at "nm"
  refine q_val (b := true) (d := .list (((((rT0 a b c u) ++ rT1 a b c u) ++ rT2 a b c u) ++ rT3 a b c u).map PyData.str)) (Ev.is (d := .list ((((rT0 a b c u) ++ rT1 a b c u) ++ rT2 a b c u).map PyData.str ++ (rT3 a b c u).map PyData.str)) (EvL.ev (el_cat (Ev.t (ev_var rfl)) (EvL.t (el_lst (ds := (rT3 a b c u).map PyData.str) (ef_cons ev_str (ef_cons ev_str (ef_cons (ev_addB (Ev.r (b := false) ev_str) (Ev.r (b := false) (Ev.is (ev_repS (n := 31) (Ev.r (b := false) ev_str) (Ev.r (b := false) ev_int) (by decide) (by decide) (by decide +kernel)) (congrArg PyData.str rep_31))) (by walk_at "zs") (by decide)) (ef_cons (ev_addB (Ev.r (b := false) (ev_addB (Ev.r (b := false) (ev_addB (Ev.r (b := false) (ev_addB (Ev.r (b := false) ev_str) (Ev.r (b := false) (ev_varS rfl rfl)) (by walk_at "zs") (by decide))) (Ev.r (b := false) ev_str) (by walk_at "zs") (by decide))) (Ev.r (b := false) (Ev.is (ev_repS (n := 31) (Ev.r (b := false) ev_str) (Ev.r (b := false) ev_int) (by decide) (by decide) (by decide +kernel)) (congrArg PyData.str rep_31))) (by walk_at "zs") (by decide))) (Ev.r (b := false) ev_str) (by walk_at "zs") (by decide)) (ef_cons (ev_addB (Ev.r (b := false) ev_str) (Ev.r (b := false) (ev_varS rfl rfl)) (by walk_at "zs") (by decide)) ef_nil))))) (Nat.le_of_ble_eq_true rfl))) (Nat.le_of_ble_eq_true rfl))) (by rw [← List.map_append])) ?_
  walk_at "nm"
  refine q_own (b := true) (ds := (((((rT0 a b c u) ++ rT1 a b c u) ++ rT2 a b c u) ++ rT3 a b c u).map (fun r => (r, (3 : Int)))).map rowD) (EvL.is (el_lc (b0 := true) (xs := ((((rT0 a b c u) ++ rT1 a b c u) ++ rT2 a b c u) ++ rT3 a b c u)) (enc := PyData.str) (js := [6]) (fun _ => true) (fun r => .tuple [.str r, .int 3]) (Ev.e (ev_var rfl)) (Nat.le_of_ble_eq_true rfl) (by simp) fun r hr => ⟨_, tg_name, eb_yes, fun _ => ev_tup (ef_cons (ev_var rfl) (ef_cons ev_int ef_nil)) (Nat.le_of_ble_eq_true rfl)⟩) (mapT _ 3)) ?_
  walk_at "nm"
  refine q_own (b := true) (ds := (((((rT0 a b c u) ++ rT1 a b c u) ++ rT2 a b c u) ++ rT3 a b c u).map (fun r => (r, (3 : Int))) ++ rT4 a b c u).map rowD) (EvL.is (ds := (((((rT0 a b c u) ++ rT1 a b c u) ++ rT2 a b c u) ++ rT3 a b c u).map (fun r => (r, (3 : Int)))).map rowD ++ (rT4 a b c u).map rowD) (el_cat (et_own rfl) (EvL.t (el_lst (ds := (rT4 a b c u).map rowD) (ef_cons (ev_tup (ds := [_, _]) (ef_cons (ev_addB (Ev.r (b := false) (ev_addB (Ev.r (b := false) ev_str) (Ev.r (b := false) (ev_varS rfl rfl)) (by walk_at "zs") (by decide))) (Ev.r (b := false) ev_str) (by walk_at "zs") (by decide)) (ef_cons ev_int ef_nil)) (Nat.le_of_ble_eq_true rfl)) (ef_cons (ev_tup (ds := [_, _]) (ef_cons (ev_addB (Ev.r (b := false) (ev_addB (Ev.r (b := false) ev_str) (Ev.r (b := false) (ev_varS rfl rfl)) (by walk_at "zs") (by decide))) (Ev.r (b := false) ev_str) (by walk_at "zs") (by decide)) (ef_cons ev_int ef_nil)) (Nat.le_of_ble_eq_true rfl)) ef_nil)) (Nat.le_of_ble_eq_true rfl))) (Nat.le_of_ble_eq_true rfl)) (by rw [← List.map_append])) ?_
  walk_at "nm"
  refine q_app (b := true) (d := rowD (rTx u)) rfl (ev_tup (ds := [_, _]) (ef_cons (ev_addB (Ev.r (b := false) (ev_addB (Ev.r (b := false) (ev_addB (Ev.r (b := false) (ev_addB (Ev.r (b := false) ev_str) (Ev.r (b := false) (ev_varS rfl rfl)) (by walk_at "zs") (by decide))) (Ev.r (b := false) ev_str) (by walk_at "zs") (by decide))) (Ev.r (b := false) (Ev.is (ev_repS (n := 30) (Ev.r (b := false) ev_str) (Ev.r (b := false) ev_int) (by decide) (by decide) (by decide +kernel)) (congrArg PyData.str rep_30))) (by walk_at "zs") (by decide))) (Ev.r (b := false) ev_str) (by walk_at "zs") (by decide)) (ef_cons ev_int ef_nil)) (Nat.le_of_ble_eq_true rfl)) (Nat.le_of_ble_eq_true rfl) ?_
  walk_at "nm"
  refine q_val (b := true) (d := .list ((rT5 a b c u).map PyData.str)) (EvL.ev (el_lst (ds := (rT5 a b c u).map PyData.str) (ef_cons (ev_addB (Ev.r (b := false) (ev_addB (Ev.r (b := false) (ev_addB (Ev.r (b := false) ev_str) (Ev.r (b := false) (ev_varS rfl rfl)) (by walk_at "zs") (by decide))) (Ev.r (b := false) ev_str) (by walk_at "zs") (by decide))) (Ev.r (b := false) (ev_varS rfl rfl)) (by walk_at "zs") (by decide)) (ef_cons (ev_addB (Ev.r (b := false) (ev_addB (Ev.r (b := false) (ev_addB (Ev.r (b := false) ev_str) (Ev.r (b := false) (ev_varS rfl rfl)) (by walk_at "zs") (by decide))) (Ev.r (b := false) ev_str) (by walk_at "zs") (by decide))) (Ev.r (b := false) (ev_varS rfl rfl)) (by walk_at "zs") (by decide)) (ef_cons (ev_addB (Ev.r (b := false) (ev_addB (Ev.r (b := false) (ev_addB (Ev.r (b := false) ev_str) (Ev.r (b := false) (ev_varS rfl rfl)) (by walk_at "zs") (by decide))) (Ev.r (b := false) ev_str) (by walk_at "zs") (by decide))) (Ev.r (b := false) (ev_varS rfl rfl)) (by walk_at "zs") (by decide)) (ef_cons (ev_addB (Ev.r (b := false) (ev_addB (Ev.r (b := false) (ev_addB (Ev.r (b := false) ev_str) (Ev.r (b := false) (ev_varS rfl rfl)) (by walk_at "zs") (by decide))) (Ev.r (b := false) ev_str) (by walk_at "zs") (by decide))) (Ev.r (b := false) (ev_varS rfl rfl)) (by walk_at "zs") (by decide)) ef_nil)))) (Nat.le_of_ble_eq_true rfl))) ?_
  walk_at "nm"
  refine go_ret (d := rowsL (rT a b c u)) (Ev.is (d := .list ((((((rT0 a b c u) ++ rT1 a b c u) ++ rT2 a b c u) ++ rT3 a b c u).map (fun r => (r, (3 : Int))) ++ rT4 a b c u).map rowD ++ [rowD (rTx u)] ++ ((rT5 a b c u).map (fun r => (r, (5 : Int)))).map rowD)) (EvL.ev (el_cat (et_own rfl) (EvL.t (EvL.is (el_lc (b0 := true) (xs := (rT5 a b c u)) (enc := PyData.str) (js := [6]) (fun _ => true) (fun r => .tuple [.str r, .int 5]) (Ev.e (ev_var rfl)) (Nat.le_of_ble_eq_true rfl) (by simp) fun r hr => ⟨_, tg_name, eb_yes, fun _ => ev_tup (ef_cons (ev_var rfl) (ef_cons ev_int ef_nil)) (Nat.le_of_ble_eq_true rfl)⟩) (mapT _ 5))) (Nat.le_of_ble_eq_true rfl))) ?_) (hQ _ fun a' b' c' u' e => ?_)
  · unfold rowsL rT
    simp only [List.map_append, List.map_cons, List.map_nil]
  · injection e with e1 e
    injection e with e2 e
    injection e with e3 e
    injection e with e4 _
    injection e1 with e1
    injection e2 with e2
    injection e3 with e3
    injection e4 with e4
    rw [e1, e2, e3, e4]
def errL (e : Er) : List Bool := [decide (e = .row), decide (e = .name), decide (e = .text), decide (e = .room), decide (e = .order), true]
def R__law_refused (C : Addr) (ds : List PyData) (r : PyData) : Prop := ∃ B row e, ds = [bkD C B, .str row] ∧ BkOk B ∧ row.length ≤ 1000 ∧ Small (Txt.split row " ") ∧ SErr B (Txt.split row " ") e ∧ r = .list ((errL e).map PyData.bool)
theorem len__law_refused {C : Addr} (ds : List PyData) (r : PyData) (h : R__law_refused C ds r) : ds.length = 2 := by obtain ⟨_, _, _, rfl, _⟩ := h; rfl

abbrev N__law_refused : List Str := ["_law_book", "_law_row", "_law_caught", "e", "_law_found"]
theorem sc__law_refused : FnScope N__law_refused ["_law_book", "_law_row"] (defScope s__law_refused) := ⟨rfl, rfl, rfl, by decide +kernel, rfl, by decide +kernel, by decide +kernel⟩
theorem ok__law_refused (D : Dfn K mg "_law_refused" s__law_refused ["_law_book", "_law_row"]) (T : Tb mg) (EX_ : EX K mg C_BookError C_NoOrder C_NoRoom C_NoRow C_NoName C_NoText) (CB : DL.BkC K C_Book) (c_Book_say : DL.ClM P w K mg base (L2.CX P w) 8 C_Book "say" (DL.spM2 K C_Book [true, false] (P_Book_say C_Book) R_Book_say (X_Book_say C_Book C_NoOrder C_NoRoom C_NoRow C_NoName C_NoText) RB_Book_say)) : Cl P w K mg base CX0 9 "_law_refused" (DL.spSF K [true, false] (R__law_refused C_Book)) := by
  refine DL.cl_SF (k := 8) D sc__law_refused len__law_refused fun f cdv A outer s H E hr => ⟨_, (pss_cons (ps_set (i := 2) sc__law_refused.nd rfl (Or.inl rfl) pe_non)
      (pss_cons (DL.ps_tryK (i := 3) (j := 2) K rfl rfl rfl rfl sc__law_refused.nd rfl rfl ⟨rfl, by decide, .inl EX_.g_BookError⟩ (fun W pn xe tk _ => (pss_one (ps_expr (DL.pe_mT c_Book_say (hr.mono (by decide)) (fun σ => passAt tk σ) (pv 0) (pa_cons (pv 1) pa_nil))))) (fun a oe cls d pn _ _ => (pss_one (ps_set (i := 2) sc__law_refused.nd rfl (Or.inl rfl) (pv 3)))))
      (pss_cons (ps_set (i := 4) sc__law_refused.nd rfl (Or.inl rfl) (pe_lst (pa_cons (pe_callB (DL.k_isC K) rfl T.isinstance_ (by decide +kernel) (pa_cons (pv 2) (pa_cons (pe_glob (v := .ref C_NoRow) rfl EX_.g_NoRow rfl) pa_nil))) (pa_cons (pe_callB (DL.k_isC K) rfl T.isinstance_ (by decide +kernel) (pa_cons (pv 2) (pa_cons (pe_glob (v := .ref C_NoName) rfl EX_.g_NoName rfl) pa_nil))) (pa_cons (pe_callB (DL.k_isC K) rfl T.isinstance_ (by decide +kernel) (pa_cons (pv 2) (pa_cons (pe_glob (v := .ref C_NoText) rfl EX_.g_NoText rfl) pa_nil))) pa_nil)))))
      (pss_one (ps_ret (pe_op DL.op_catR (pv 4) (pe_lst (pa_cons (pe_callB (DL.k_isC K) rfl T.isinstance_ (by decide +kernel) (pa_cons (pv 2) (pa_cons (pe_glob (v := .ref C_NoRoom) rfl EX_.g_NoRoom rfl) pa_nil))) (pa_cons (pe_callB (DL.k_isC K) rfl T.isinstance_ (by decide +kernel) (pa_cons (pv 2) (pa_cons (pe_glob (v := .ref C_NoOrder) rfl EX_.g_NoOrder rfl) pa_nil))) (pa_cons (pe_callB (DL.k_isC K) rfl T.isinstance_ (by decide +kernel) (pa_cons (pv 2) (pa_cons (pe_bltn (v := .ty "ValueError") rfl T.ValueError_ (by decide +kernel) rfl) pa_nil))) pa_nil)))))))))), ?_⟩
  rintro Q c _ _ ⟨B, row, e, rfl, ok, hl, sm, er, rfl⟩ hQ
  show Go c c.H0 _ _ [_, _, Sl.no, Sl.no, Sl.no]
  refine q_val (b := false) ev_non ?_
  walk_at "nm"
  have cc : PySem.W.exmOne K (.ref (erA C_NoOrder C_NoRoom C_NoRow C_NoName C_NoText e)) (.ref C_BookError) = some true := by
    cases e
    · exact EX_.m_NoOrder
    · exact EX_.m_NoRoom
    · exact EX_.m_NoRow
    · exact EX_.m_NoName
    · exact EX_.m_NoText
  refine q_try (go_dropMK (ds := [.str row]) (j := 2) nf_say (ev_var rfl) (em_any (er_var rfl) em_nil) ⟨B, row, e, rfl, ok, hl, sm, er, rfl⟩ cc (Nat.le_of_ble_eq_true rfl) ?_)
  walk_at "nm"
  have F : ExcC K (erA C_NoOrder C_NoRoom C_NoRow C_NoName C_NoText e) ∧ PySem.W.kitOne K (.ref (erA C_NoOrder C_NoRoom C_NoRow C_NoName C_NoText e)) (.ref C_NoRow) = some (decide (e = .row)) ∧ PySem.W.kitOne K (.ref (erA C_NoOrder C_NoRoom C_NoRow C_NoName C_NoText e)) (.ref C_NoName) = some (decide (e = .name)) ∧ PySem.W.kitOne K (.ref (erA C_NoOrder C_NoRoom C_NoRow C_NoName C_NoText e)) (.ref C_NoText) = some (decide (e = .text)) ∧
      PySem.W.kitOne K (.ref (erA C_NoOrder C_NoRoom C_NoRow C_NoName C_NoText e)) (.ref C_NoRoom) = some (decide (e = .room)) ∧ PySem.W.kitOne K (.ref (erA C_NoOrder C_NoRoom C_NoRow C_NoName C_NoText e)) (.ref C_NoOrder) = some (decide (e = .order)) ∧ PySem.W.kitOne K (.ref (erA C_NoOrder C_NoRoom C_NoRow C_NoName C_NoText e)) (.type "ValueError") = some true := by
    cases e
    · exact ⟨EX_.e_NoOrder.c, EX_.q_NoOrder_NoRow, EX_.q_NoOrder_NoName, EX_.q_NoOrder_NoText, EX_.q_NoOrder_NoRoom, EX_.q_NoOrder_NoOrder, EX_.q_NoOrder_ValueError⟩
    · exact ⟨EX_.e_NoRoom.c, EX_.q_NoRoom_NoRow, EX_.q_NoRoom_NoName, EX_.q_NoRoom_NoText, EX_.q_NoRoom_NoRoom, EX_.q_NoRoom_NoOrder, EX_.q_NoRoom_ValueError⟩
    · exact ⟨EX_.e_NoRow.c, EX_.q_NoRow_NoRow, EX_.q_NoRow_NoName, EX_.q_NoRow_NoText, EX_.q_NoRow_NoRoom, EX_.q_NoRow_NoOrder, EX_.q_NoRow_ValueError⟩
    · exact ⟨EX_.e_NoName.c, EX_.q_NoName_NoRow, EX_.q_NoName_NoName, EX_.q_NoName_NoText, EX_.q_NoName_NoRoom, EX_.q_NoName_NoOrder, EX_.q_NoName_ValueError⟩
    · exact ⟨EX_.e_NoText.c, EX_.q_NoText_NoRow, EX_.q_NoText_NoName, EX_.q_NoText_NoText, EX_.q_NoText_NoRoom, EX_.q_NoText_NoOrder, EX_.q_NoText_ValueError⟩
  obtain ⟨X, h1, h2, h3, h4, h5, h6⟩ := F
  refine q_own (b := true) (ds := [.bool (decide (e = .row)), .bool (decide (e = .name)), .bool (decide (e = .text))]) (el_lst (ef_cons (ev_isC rfl X (.own _) h1) (ef_cons (ev_isC rfl X (.own _) h2) (ef_cons (ev_isC rfl X (.own _) h3) ef_nil))) (Nat.le_of_ble_eq_true rfl)) ?_
  walk_at "nm"
  exact go_ret (EvL.ev (el_cat (et_own rfl) (EvL.t (el_lst (ef_cons (ev_isC rfl X (.own _) h4) (ef_cons (ev_isC rfl X (.own _) h5) (ef_cons (ev_isC rfl X (.ty _) h6) ef_nil))) (Nat.le_of_ble_eq_true rfl))) (Nat.le_of_ble_eq_true rfl))) hQ
def R_law (ds : List PyData) (r : PyData) : Prop := ∃ ns : List Int, ds = [iL ns] ∧ ns.length ≤ 63 ∧ (∀ z ∈ ns, Sz 1048576 z) ∧ r = .bool true
theorem len_law (ds : List PyData) (r : PyData) (h : R_law ds r) : ds.length = 1 := by obtain ⟨n, rfl, _⟩ := h; rfl
theorem law_true (ns : List Int) (h1 : ns.length ≤ 63) (h2 : ∀ z ∈ ns, Builtin.Int.intBits z ≤ 1048576) : R_law [iL ns] (.bool true) := ⟨ns, rfl, h1, fun z hz => Sz.bits (h2 z hz), rfl⟩
theorem all_app {α : Type} {Q : α → Prop} {xs ys : List α} (h : ∀ x ∈ xs, Q x) (g : ∀ x ∈ ys, Q x) : ∀ x ∈ xs ++ ys, Q x := fun x hx => (List.mem_append.mp hx).elim (h x) (g x)
theorem all_map {α β : Type} {Q : β → Prop} {f : α → β} {xs : List α} (h : ∀ x ∈ xs, Q (f x)) : ∀ y ∈ xs.map f, Q y := fun y hy => by
  obtain ⟨x, hx, rfl⟩ := List.mem_map.mp hy
  exact h x hx
theorem good_W {a u : Str} (na : nameZ a = true) (nu : nameZ u = true) : ∀ p ∈ rW a u, GoodRow (fun _ => True) p :=
  all_app (all_map (all_app (all_app (all_app (gW0 na nu) (gW1 na nu)) (gW2 na nu)) (gW3 na nu))) (gW4 na nu)
theorem good_N {a u m : Str} (na : nameZ a = true) (nu : nameZ u = true) (hm : NoN m) : ∀ p ∈ rN a u m, GoodRow (CtxN a u m) p :=
  all_map (all_app (all_app (gN0 na nu hm.2.1 hm.2.2) (gN1 na nu hm.2.1 hm.2.2)) (gN2 na nu hm.2.1 hm.2.2))
theorem good_T {a b c u : Str} (na : nameZ a = true) (nb : nameZ b = true) (nc : nameZ c = true) (nu : nameZ u = true) : ∀ p ∈ rT a b c u, GoodRow (CtxT a b c u) p :=
  all_app (all_app (all_app (all_map (all_app (all_app (all_app (gT0 na nb nc nu) (gT1 na nb nc nu)) (gT2 na nb nc nu)) (gT3 na nb nc nu))) (gT4 na nb nc nu)) (alw_cons (gTx na nb nc nu) alw_nil)) (all_map (gT5 na nb nc nu))
def wkC (ce : Int) (k : Nat) : Int × Int × Int := (5 + mixZ ce (k : Int) % 9, mixZ ce (9 + (k : Int)) % 5, mixZ ce (18 + (k : Int)) % 4)
theorem wkC_ok (ce : Int) : Wks (wkC ce) := ⟨fun k => by
  have a0 := Int.emod_nonneg (mixZ ce (k : Int)) (show (9 : Int) ≠ 0 by decide)
  have a1 := Int.emod_lt_of_pos (mixZ ce (k : Int)) (show (0 : Int) < 9 by decide)
  have b0 := Int.emod_nonneg (mixZ ce (9 + (k : Int))) (show (5 : Int) ≠ 0 by decide)
  have b1 := Int.emod_lt_of_pos (mixZ ce (9 + (k : Int))) (show (0 : Int) < 5 by decide)
  have c0 := Int.emod_nonneg (mixZ ce (18 + (k : Int))) (show (4 : Int) ≠ 0 by decide)
  have c1 := Int.emod_lt_of_pos (mixZ ce (18 + (k : Int))) (show (0 : Int) < 4 by decide)
  refine ⟨b0, ?_, c0, ?_, ?_⟩
  · show mixZ ce (9 + (k : Int)) % 5 ≤ 5 + mixZ ce (k : Int) % 9
    omega
  · show 5 + mixZ ce (k : Int) % 9 < 100
    omega
  · show mixZ ce (18 + (k : Int)) % 4 < 100
    omega⟩
section
variable {K : PySem.W.Frag} {c : Cq K} {ρ : Rho} {C a O R W N T : Addr} {A : BkA} {B B' : Bk} {i : Nat} {b : Bool} {E : XK} {te : TE} {row n : Str}
abbrev SaySp (K : PySem.W.Frag) (C O R W N T : Addr) : Sp := DL.spM2 K C [true, false] (P_Book_say C) R_Book_say (X_Book_say C O R W N T) RB_Book_say
theorem say_names (h : ρ[i]? = some (.bk C a A B)) (ok : BkOk B) (hn : NumB B) : Ev c b (tMeth C "say" (SaySp K C O R W N T) [] E (tVar i) (tCons (tC (.str "names")) tNil)) ρ (.str (Txt.join " " B.names)) := by
  have sp : Txt.split "names" " " = (["names"] : List Str) := by decide +kernel
  refine EvN.ev1 ((en_methO (ds := [.str "names"]) nf_say h (ea_cons (Ev.r (b := true) ev_str) ea_nil) rfl ⟨B, "names", rfl, ok, by decide +kernel, hn, .inl sp⟩ fun r hr => ?_).mono fun r hr => ?_)
  · rw [(hr C B "names" rfl).1 sp]; rfl
  · exact (hr C B "names" rfl).1 sp
theorem say_show (h : ρ[i]? = some (.bk C a A B)) (ok : BkOk B) (hn : NumB B) (hr : EvR c te ρ (.str ("show " ++ n))) (hh : hasB B n = true) : Ev c b (tMeth C "say" (SaySp K C O R W N T) [] E (tVar i) (tCons te tNil)) ρ (.str (showB B n)) := by
  have nz := ok.nz n ((has_mem ok).mp hh)
  have sp := spl_show nz
  have hl : ("show " ++ n : Str).length ≤ 1000 := by
    have h1 := (name_of nz).2.1
    have h2 : (Str.ofString "show ").length = 5 := by decide +kernel
    rw [addZ_len, h2]; omega
  refine EvN.ev1 ((en_methO (ds := [.str ("show " ++ n)]) nf_say h (ea_cons hr ea_nil) rfl ⟨B, _, rfl, ok, hl, hn, .inr ⟨n, sp, hh⟩⟩ fun r hr => ?_).mono fun r hr => ?_)
  · rw [(hr C B _ rfl).2 n sp]; rfl
  · exact (hr C B _ rfl).2 n sp
theorem say_chg (h : ρ[i]? = some (.bk C a A B)) (ok : BkOk B) (hr : Ev c true te ρ (.str row)) (hl : row.length ≤ 1000) {ws : List Str} (hs : Txt.split row " " = ws) (sm : Small ws) (ch : Chg B ws B') : EvC c (tMeth C "say" (SaySp K C O R W N T) [] E (tVar i) (tCons te tNil)) ρ i C a A B' (.str "ok") :=
  ec_meth (ds := [.str row]) nf_say h (ef_cons hr ef_nil) ⟨row, rfl, ok, hl, by rw [hs]; exact sm, rfl, by rw [hs]; exact ch⟩ rfl
end

abbrev N_law : List Str := ["_law_script", "_law_book", "_law_names_here", "_law_cell", "_law_a", "_law_b", "_law_c", "_law_u", "_law_texts", "_law_k", "_law_numbers", "_law_number", "_law_one", "_law_rows", "_law_row", "_law_mark", "_law_name", "_law_at", "_law_left"]
theorem sc_law : FnScope N_law ["_law_script"] (defScope s_law) := ⟨rfl, rfl, rfl, by decide +kernel, rfl, by decide +kernel, by decide +kernel⟩
theorem ok_law {ff : Addr} {ffd : FuncData} (D : Fun K "law" "law" s_law ff ffd) (T : Tb mg) (EX_ : EX K mg C_BookError C_NoOrder C_NoRoom C_NoRow C_NoName C_NoText) (CB : DL.BkC K C_Book) (c_Book___init__ : DL.ClI P w K mg base 1 "Book" C_Book) (c__law_names : Cl P w K mg base CX0 2 "_law_names" (spN K P__law_names R__law_names)) (c__law_cell_at : Cl P w K mg base CX0 1 "_law_cell_at" (spF K R__law_cell_at)) (c_Book_say : DL.ClM P w K mg base (L2.CX P w) 8 C_Book "say" (DL.spM2 K C_Book [true, false] (P_Book_say C_Book) R_Book_say (X_Book_say C_Book C_NoOrder C_NoRoom C_NoRow C_NoName C_NoText) RB_Book_say)) (c__law_mix : Cl P w K mg base CX0 1 "_law_mix" (spF K R__law_mix)) (c__law_of_texts : Cl P w K mg base CX0 1 "_law_of_texts" (spN K P__law_of_texts R__law_of_texts)) (c__law_refused : Cl P w K mg base CX0 9 "_law_refused" (DL.spSF K [true, false] (R__law_refused C_Book))) (c__law_of_words : Cl P w K mg base CX0 1 "_law_of_words" (spN K P__law_of_words R__law_of_words)) (c__law_of_names : Cl P w K mg base CX0 1 "_law_of_names" (spN K P__law_of_names R__law_of_names)) (c__law_no_name : Cl P w K mg base CX0 2 "_law_no_name" (spN K P__law_no_name R__law_no_name)) : FnOk P w K mg base CX0 10 ff ffd ["_law_script"] (spF K R_law) := by
  refine fn_F (k := 9) D sc_law len_law fun f cdv A outer s H E hr => ⟨_, (pss_cons (ps_set (i := 1) sc_law.nd rfl (Or.inr rfl) (DL.pe_mk0 c_Book___init__ (hr.mono (by decide)) rfl))
      (pss_cons (ps_set (i := 2) sc_law.nd rfl (Or.inr rfl) (DL.pe_cl c__law_names (hr.mono (by decide)) rfl pass0 (pa_cons (DL.pe_cl c__law_cell_at (hr.mono (by decide)) rfl pass0 (pa_cons (pv 0) (pa_cons pe_int pa_nil))) pa_nil)))
      (pss_cons (ps_set (i := 3) sc_law.nd rfl (Or.inl rfl) (DL.pe_cl c__law_cell_at (hr.mono (by decide)) rfl pass0 (pa_cons (pv 0) (pa_cons pe_int pa_nil))))
      (pss_cons (ps_asg (pe_slice (DL.k_sl_list K) (pv 2) po_none (po_some pe_int)) (DL.k_pg_unl K (n := 3) rfl (pgs_cons (pg_name (i := 4) sc_law.nd rfl (Or.inl rfl)) (pgs_cons (pg_name (i := 5) sc_law.nd rfl (Or.inl rfl)) (pgs_cons (pg_name (i := 6) sc_law.nd rfl (Or.inl rfl)) pgs_nil)))))
      (pss_cons (ps_set (i := 7) sc_law.nd rfl (Or.inl rfl) (pe_ix (DL.k_ix_list K) (pv 2) pe_int (fun _ _ => rfl)))
      (pss_cons (ps_set (i := 8) sc_law.nd rfl (Or.inl rfl) (pe_lst pa_nil))
      (pss_cons (ps_for PassesOwn.never rfl (pi_range1 rfl T.range_ (pa_cons pe_int pa_nil)) (pg_name (i := 9) sc_law.nd rfl (Or.inl rfl)) (pss_cons (ps_set (i := 10) sc_law.nd rfl (Or.inl rfl) (pe_lst (pa_cons (pe_op op_add pe_int (pe_op op_mod (DL.pe_cl c__law_mix (hr.mono (by decide)) rfl pass0 (pa_cons (pv 3) (pa_cons (pv 9) pa_nil))) pe_int)) (pa_cons (pe_op op_mod (DL.pe_cl c__law_mix (hr.mono (by decide)) rfl pass0 (pa_cons (pv 3) (pa_cons (pe_op op_add pe_int (pv 9)) pa_nil))) pe_int) (pa_cons (pe_op op_mod (DL.pe_cl c__law_mix (hr.mono (by decide)) rfl pass0 (pa_cons (pv 3) (pa_cons (pe_op op_add pe_int (pv 9)) pa_nil))) pe_int) pa_nil)))))
      (pss_cons (ps_expr (DL.k_bm K PySem.F.plainAttrs_list PySem.F.slot_list_append PySem.F.type_list_append mt_append (pv 8) (pa_cons (DL.k_join K pe_str (pe_lc (own := [("_law_number", 11)]) rfl sc_law.nd (DL.k_pi_list K (pv 10)) (blkOk_by (N := N_law) (sc := defScope s_law) (by decide +kernel)) (fun _ _ _ _ _ => (pg_name (i := 11) sc_law.nd rfl (by first | exact Or.inl rfl | exact Or.inr rfl))) (fun _ _ _ _ _ => pts_nil) (fun _ _ _ _ _ => (pe_callTy call_str_int rfl T.str_ (by decide +kernel) (pa_cons (pv 11) pa_nil))))) pa_nil)))
      (pss_one (ps_if (pt_cmpR op_ne (DL.pe_m c_Book_say (hr.mono (by decide)) passL (pv 1) (pa_cons (pe_op op_add_str (pe_op op_add_str (pe_op op_add_str pe_str (pe_ix (DL.k_ix_list K) (pv 2) (pv 9) (fun _ _ => rfl))) pe_str) (pe_ix (DL.k_ix_list K) (pv 8) (pv 9) (fun _ _ => rfl))) pa_nil)) pe_str (nomark _)) (pss_one (ps_ret pe_bl)) pss_nil)))))
      (pss_cons (ps_if (PW.pt (pw_or (pt_cmpR op_ne (DL.pe_m c_Book_say (hr.mono (by decide)) passL (pv 1) (pa_cons (pe_op op_add_str (pe_op op_add_str (pe_op op_add_str pe_str (pv 4)) pe_str) (pv 5)) pa_nil)) pe_str (nomark _)) (pw_or1 (pt_cmpR op_ne (DL.pe_m c_Book_say (hr.mono (by decide)) passL (pv 1) (pa_cons (pe_op op_add_str (pe_op op_add_str (pe_op op_add_str pe_str (pv 5)) pe_str) (pv 6)) pa_nil)) pe_str (nomark _))))) (pss_one (ps_ret pe_bl)) pss_nil)
      (pss_cons (ps_asg (pe_op op_add_str (pe_op op_add_str (pe_ix (DL.k_ix_list K) (pv 8) pe_int (fun _ _ => rfl)) pe_str) (pv 4)) (pg_sub (pv 8) pe_int set_list))
      (pss_cons (ps_asg (pe_op op_add_str (pe_op op_add_str (pe_ix (DL.k_ix_list K) (pv 8) pe_int (fun _ _ => rfl)) pe_str) (pv 5)) (pg_sub (pv 8) pe_int set_list))
      (pss_cons (ps_for PassesOwn.never rfl (DL.k_pi_list K (pe_op DL.op_catR (pe_lst (pa_cons pe_int pa_nil)) (pe_slice (DL.k_sl_list K) (pv 0) (po_some pe_int) (po_some pe_int)))) (pg_name (i := 12) sc_law.nd rfl (Or.inl rfl)) (pss_cons (ps_set (i := 13) sc_law.nd rfl (Or.inl rfl) (pe_op DL.op_catR (pe_op DL.op_catR (DL.pe_cl c__law_of_words (hr.mono (by decide)) rfl pass0 (pa_cons (pv 4) (pa_cons (pv 7) pa_nil))) (DL.pe_cl c__law_of_names (hr.mono (by decide)) rfl pass0 (pa_cons (pv 4) (pa_cons (pv 7) (pa_cons (DL.pe_cl c__law_no_name (hr.mono (by decide)) rfl pass0 (pa_cons (pv 4) (pa_cons (pv 12) pa_nil))) pa_nil))))) (DL.pe_cl c__law_of_texts (hr.mono (by decide)) rfl pass0 (pa_cons (pv 4) (pa_cons (pv 5) (pa_cons (pv 6) (pa_cons (pv 7) pa_nil)))))))
      (pss_cons (ps_asg (pe_ix (DL.k_ix_list K) (pv 13) (pe_op op_mod (DL.pe_cl c__law_mix (hr.mono (by decide)) rfl pass0 (pa_cons (pv 12) (pa_cons pe_int pa_nil))) (pe_callB (DL.k_len_seq K) rfl T.len_ (by decide +kernel) (pa_cons (pv 13) pa_nil))) (fun _ _ => rfl)) (DL.k_pg_tup K (n := 2) rfl (pgs_cons (pg_name (i := 14) sc_law.nd rfl (Or.inl rfl)) (pgs_cons (pg_name (i := 15) sc_law.nd rfl (Or.inr rfl)) pgs_nil))))
      (pss_cons (ps_if (pt_cmpR (DL.k_neD K hr.units) (DL.pe_cl c__law_refused (hr.mono (by decide)) rfl pass0 (pa_cons (pv 1) (pa_cons (pv 14) pa_nil))) (pe_op DL.op_catR (pe_lc (own := [("_law_k", 9)]) rfl sc_law.nd (pi_range1 rfl T.range_ (pa_cons pe_int pa_nil)) (blkOk_by (N := N_law) (sc := defScope s_law) (by decide +kernel)) (fun _ _ _ _ _ => (pg_name (i := 9) sc_law.nd rfl (by first | exact Or.inl rfl | exact Or.inr rfl))) (fun _ _ _ _ _ => pts_nil) (fun _ _ _ _ _ => (pe_cmpR op_eq (pv 15) (pe_op op_add (pv 9) pe_int) (nomark _)))) (pe_lst (pa_cons pe_bl pa_nil))) (nomark _)) (pss_one (ps_ret pe_bl)) pss_nil)
      (pss_one (ps_if (PW.pt (pw_or (pt_cmpR op_ne (DL.pe_m c_Book_say (hr.mono (by decide)) passL (pv 1) (pa_cons pe_str pa_nil)) (DL.k_join K pe_str (pe_slice (DL.k_sl_list K) (pv 2) po_none (po_some pe_int))) (nomark _)) (pw_or1 (pt_cmpR (DL.k_neD K hr.units) (pe_lc (own := [("_law_name", 16)]) rfl sc_law.nd (DL.k_pi_list K (pe_slice (DL.k_sl_list K) (pv 2) po_none (po_some pe_int))) (blkOk_by (N := N_law) (sc := defScope s_law) (by decide +kernel)) (fun _ _ _ _ _ => (pg_name (i := 16) sc_law.nd rfl (by first | exact Or.inl rfl | exact Or.inr rfl))) (fun _ _ _ _ _ => pts_nil) (fun _ _ _ _ _ => (DL.pe_m c_Book_say (hr.mono (by decide)) passL (pv 1) (pa_cons (pe_op op_add_str pe_str (pv 16)) pa_nil)))) (pv 8) (nomark _))))) (pss_one (ps_ret pe_bl)) pss_nil))))))
      (pss_cons (ps_set (i := 17) sc_law.nd rfl (Or.inr rfl) (pe_op op_mod (DL.pe_cl c__law_mix (hr.mono (by decide)) rfl pass0 (pa_cons (pv 3) (pa_cons pe_int pa_nil))) pe_int))
      (pss_cons (ps_if (PW.pt (pw_or (pt_cmpR op_ne (DL.pe_m c_Book_say (hr.mono (by decide)) passL (pv 1) (pa_cons (pe_op op_add_str pe_str (pe_ix (DL.k_ix_list K) (pv 2) (pv 17) (fun _ _ => rfl))) pa_nil)) pe_str (nomark _)) (pw_or1 (pt_cmpR op_ne (DL.pe_m c_Book_say (hr.mono (by decide)) passL (pv 1) (pa_cons (pe_op op_add_str (pe_op op_add_str pe_str (pv 7)) pe_str) pa_nil)) pe_str (nomark _))))) (pss_one (ps_ret pe_bl)) pss_nil)
      (pss_cons (ps_set (i := 18) sc_law.nd rfl (Or.inl rfl) (pe_op DL.op_catR (pe_lc (own := [("_law_k", 9)]) rfl sc_law.nd (pi_range1 rfl T.range_ (pa_cons pe_int pa_nil)) (blkOk_by (N := N_law) (sc := defScope s_law) (by decide +kernel)) (fun _ _ _ _ _ => (pg_name (i := 9) sc_law.nd rfl (by first | exact Or.inl rfl | exact Or.inr rfl))) (fun _ _ _ _ _ => pts_one (pt_cmpR op_ne (pv 9) (pv 17) (nomark _))) (fun _ _ _ _ _ => (pe_ix (DL.k_ix_list K) (pv 2) (pv 9) (fun _ _ => rfl)))) (pe_lst (pa_cons (pv 7) pa_nil))))
      (pss_cons (ps_if (PW.pt (pw_or (pt_cmpR op_ne (DL.pe_m c_Book_say (hr.mono (by decide)) passL (pv 1) (pa_cons pe_str pa_nil)) (DL.k_join K pe_str (pv 18)) (nomark _)) (pw_or1 (pt_cmpR op_ne (DL.pe_m c_Book_say (hr.mono (by decide)) passL (pv 1) (pa_cons (pe_op op_add_str pe_str (pv 7)) pa_nil)) pe_str (nomark _))))) (pss_one (ps_ret pe_bl)) pss_nil)
      (pss_one (ps_ret (pe_and (pe_cmpR op_eq (DL.pe_m c_Book_say (hr.mono (by decide)) passL (pv 1) (pa_cons (pe_op op_add_str (pe_op op_add_str pe_str (pv 7)) pe_str) pa_nil)) pe_str (nomark _)) (pe_one (pe_cmpR op_eq (DL.pe_m c_Book_say (hr.mono (by decide)) passL (pv 1) (pa_cons (pe_op op_add_str pe_str (pv 7)) pa_nil)) pe_str (nomark _))))))))))))))))))))), ?_⟩
  rintro Q c _ _ ⟨xs, rfl, hl, hz, rfl⟩ hQ
  show Go c c.H0 _ _ [_, Sl.no, Sl.no, Sl.no, Sl.no, Sl.no, Sl.no, Sl.no, Sl.no, Sl.no, Sl.no, Sl.no, Sl.no, Sl.no, Sl.no, Sl.no, Sl.no, Sl.no, Sl.no]
  have s0 : Sz 1048576 (cellZ xs 0) := cell_sz hz 0
  have sc : Sz 1048576 (cellZ xs 1) := cell_sz hz 1
  refine q_make fun a0 A => ?_
  walk_at "nm"
  refine q_val (b := true) (d := .list (((List.range 9).map (nameC (cellZ xs 0))).map PyData.str)) (EvN.ev1 ((ev_callN (ds := [.int (cellZ xs 0)]) (ea_cons (Ev.r (b := false) (ev_call (ds := [iL xs, .int 0]) (by walk_at "dl") (cell_is (by decide)))) ea_nil) ⟨_, rfl, s0⟩).mono fun r hr => hr _ rfl)) ?_
  have NM : Nm (nameC (cellZ xs 0)) := ⟨nameC_ok _, fun j k hj hk e => nameC_inj (by omega) (by omega) e⟩
  generalize nameC (cellZ xs 0) = nm at NM
  walk_at "nm"
  refine q_val (b := true) (d := .int (cellZ xs 1)) (ev_call (ds := [iL xs, .int 1]) (by walk_at "dl") (cell_is (by decide))) ?_
  have WK := wkC_ok (cellZ xs 1)
  generalize cellZ xs 1 = ce at sc WK
  walk_at "nm"
  have at9 : ∀ k : Nat, k < 9 → atI (((List.range 9).map nm).map PyData.str) (k : Int) = some (.str (nm k)) := fun k hk => atI_nat (by rw [List.getElem?_map, atS hk]; rfl)
  have cut3 : cutL (((List.range 9).map nm).map PyData.str) none (some 3) = [.str (nm 0), .str (nm 1), .str (nm 2)] := by
    have := cutL_to (((List.range 9).map nm).map PyData.str) 3
    exact this
  have cut8 : cutL (((List.range 9).map nm).map PyData.str) none (some 8) = ((List.range 8).map nm).map PyData.str := by
    have := cutL_to (((List.range 9).map nm).map PyData.str) 8
    exact this
  refine q_tg (b := true) (d := .list [.str (nm 0), .str (nm 1), .str (nm 2)]) (Ev.is (EvL.ev (el_sl (ee_val rfl) eo_none (eo_some (Ev.r (b := true) ev_int)))) (by rw [cut3])) tg_unl3 ?_
  walk_at "nm"
  refine q_val (b := true) (d := .str (nm 8)) (ev_ix (ee_val rfl) (Ev.r (b := true) ev_int) (at9 8 (by decide))) ?_
  walk_at "nm"
  refine q_own (b := true) (ds := []) (by walk_at "dl") ?_
  walk_at "nm"
  refine q_forR (n := 8) (by walk_at "dl") (by decide) (fun i ρ => ∃ A', Le [.val false (iL xs), .bk C_Book a0 A' (bkS nm (wkC ce) i []), .val true (.list (((List.range 9).map nm).map PyData.str)), .val true (.int ce), .val true (.str (nm 0)), .val true (.str (nm 1)), .val true (.str (nm 2)), .val true (.str (nm 8)), .own true (((List.range i).map (txS nm (wkC ce))).map PyData.str), .no, .no, .no, .no, .no, .no, .no, .no, .no, .no] ρ) ⟨A, (by walk_at "le")⟩ (fun i ρ1 hi ⟨A', l⟩ => ⟨_, _, tg_weak l tg_name, ?_⟩) fun ρ1 ⟨A', l⟩ => ?_
  · walk_at "nm"
    have si : Sz 64 (i : Int) := ⟨by omega⟩
    have s9 : Sz 64 (9 + (i : Int)) := ⟨by omega⟩
    have s18 : Sz 64 (18 + (i : Int)) := ⟨by omega⟩
    obtain ⟨w1, w2, w3⟩ := WK.num i
    have nl := name100 (NM.ok i)
    have n8 := (name_of (NM.ok i)).2.1
    have tl := tx_len (nm := nm) WK i
    refine q_val (b := true) (d := .list [.int (wkC ce i).1, .int (wkC ce i).2.1, .int (wkC ce i).2.2]) (EvL.ev (el_lst (ef_cons (show Ev _ _ _ _ (.int (5 + mixZ ce (i : Int) % 9)) from (by walk_at "dl")) (ef_cons (show Ev _ _ _ _ (.int (mixZ ce (9 + (i : Int)) % 5)) from (by walk_at "dl")) (ef_cons (show Ev _ _ _ _ (.int (mixZ ce (18 + (i : Int)) % 4)) from (by walk_at "dl")) ef_nil))) (Nat.le_of_ble_eq_true rfl))) ?_
    walk_at "nm"
    refine q_app (b := true) (d := .str (txS nm (wkC ce) i)) rfl (ev_joinB (ys := [(wkC ce i).1, (wkC ce i).2.1, (wkC ce i).2.2].map numZ) 100 100 (Ev.r (b := true) ev_str) (Ev.r (b := true) (Ev.is (EvL.ev (el_lc (b0 := true) (xs := [(wkC ce i).1, (wkC ce i).2.1, (wkC ce i).2.2]) (enc := PyData.int) (js := [11]) (fun _ => true) (fun z => .str (numZ z)) (ee_val rfl) (Nat.le_of_ble_eq_true rfl) (by simp) fun z hz => ⟨_, tg_name, eb_yes, fun _ => ev_strI (er_var rfl) ?_⟩)) (by rw [lc_all]; rfl))) (Nat.le_of_ble_eq_true rfl) (fun y hy => ?_) (by decide +kernel) (by decide)) (by rw [List.length_map, List.length_map, List.length_range]; omega) ?_
    · simp only [List.mem_cons, List.not_mem_nil, or_false] at hz
      have sz : Sz 400 z := by rcases hz with rfl | rfl | rfl <;> exact sz100 (by omega) (by omega)
      exact Nat.lt_of_le_of_lt sz.log (by decide)
    · obtain ⟨z, hz, rfl⟩ := List.mem_map.mp hy
      simp only [List.mem_cons, List.not_mem_nil, or_false] at hz
      have := num_len2 (x := z) (by rcases hz with rfl | rfl | rfl <;> omega) (by rcases hz with rfl | rfl | rfl <;> omega)
      omega
    walk_at "nm"
    have e2 : ((List.range (i + 1)).map (txS nm (wkC ce))).map PyData.str = ((List.range i).map (txS nm (wkC ce))).map PyData.str ++ [.str (txS nm (wkC ce) i)] := by rw [List.range_succ, List.map_append, List.map_append]; rfl
    rw [← e2]
    have att : atI (((List.range (i + 1)).map (txS nm (wkC ce))).map PyData.str) (i : Int) = some (.str (txS nm (wkC ce) i)) := atI_nat (by rw [List.getElem?_map, List.getElem?_map, List.getElem?_range (by omega)]; rfl)
    have bl : SzS 8 (nm i) := ⟨n8⟩
    have tl9 : SzS 9 (txS nm (wkC ce) i) := ⟨tl⟩
    obtain ⟨h1, h2, h3⟩ := WK.num i
    refine go_ifC (x := false) (ec_ok (say_chg rfl (okS NM (by omega) (fun _ z => by cases z) (by decide)) (ev_addB (Ev.r (b := true) (ev_addB (Ev.r (b := true) (ev_addB (Ev.r (b := true) ev_str) (Ev.r (b := true) (ev_ix (ee_val rfl) (er_var rfl) (at9 i (by omega)))) (by walk_at "zs") (by decide))) (Ev.r (b := true) ev_str) (by walk_at "zs") (by decide))) (Ev.r (b := true) (ev_ix (ee_own rfl) (er_var rfl) att)) (by walk_at "zs") (by decide)) (SzS.le (by walk_at "zs") (by decide)) (spl_work (NM.ok i) w1.1 w2.1 w3.1) (small_work nl (Nat.le_trans (num_len2 h1.1 h1.2) (by decide)) (Nat.le_trans (num_len2 h2.1 h2.2) (by decide)) (Nat.le_trans (num_len2 h3.1 h3.2) (by decide))) (chg_work NM WK hi))) (fun h => nomatch h) fun _ A2 _ => ?_
    exact go_nx (nx_pst ⟨A2, (by walk_at "le")⟩)
  refine go_weak l ?_
  have la := name_sz (NM.ok 0)
  have lb := name_sz (NM.ok 1)
  have lc := name_sz (NM.ok 2)
  have lu := name_sz (NM.ok 8)
  have nsm : ∀ {a b : Str}, nameZ a = true → nameZ b = true → Small ["need", a, b] := fun ha hb => ⟨Nat.le_of_ble_eq_true rfl, alw_cons (by decide +kernel) (alw_cons (name100 ha) (alw_cons (name100 hb) alw_nil))⟩
  refine q_whenC (eb_orCC (Nat.le_of_ble_eq_true rfl) (ec_ok (say_chg rfl (ok0 NM) (ev_addB (Ev.r (b := true) (ev_addB (Ev.r (b := true) (ev_addB (Ev.r (b := true) ev_str) (er_var rfl) (by walk_at "zs") (by decide))) (Ev.r (b := true) ev_str) (by walk_at "zs") (by decide))) (er_var rfl) (by walk_at "zs") (by decide)) (SzS.le (by walk_at "zs") (by decide)) (spl_need (NM.ok 0) (NM.ok 1)) (nsm (NM.ok 0) (NM.ok 1)) (chg_need1 NM))) fun A1 _ => ec_ok (say_chg rfl (ok1 NM) (ev_addB (Ev.r (b := true) (ev_addB (Ev.r (b := true) (ev_addB (Ev.r (b := true) ev_str) (er_var rfl) (by walk_at "zs") (by decide))) (Ev.r (b := true) ev_str) (by walk_at "zs") (by decide))) (er_var rfl) (by walk_at "zs") (by decide)) (SzS.le (by walk_at "zs") (by decide)) (spl_need (NM.ok 1) (NM.ok 2)) (nsm (NM.ok 1) (NM.ok 2)) (chg_need2 NM))) fun A2 _ => ?_
  walk_at "nm"
  have L8 : (((List.range 8).map (txS nm (wkC ce))).map PyData.str).length = 8 := by rw [List.length_map, List.length_map, List.length_range]
  have att : ∀ k : Nat, k < 8 → (((List.range 8).map (txS nm (wkC ce))).map PyData.str)[k]? = some (.str (txS nm (wkC ce) k)) := fun k hk => by rw [List.getElem?_map, List.getElem?_map, List.getElem?_range hk]; rfl
  have l1 : SzS 9 (txS nm (wkC ce) 1) := ⟨tx_len WK 1⟩
  have l2 : SzS 9 (txS nm (wkC ce) 2) := ⟨tx_len WK 2⟩
  refine q_set (b := true) (k0 := 1) (j0 := 1) (d := .str ((txS nm (wkC ce) 1 ++ " ") ++ nm 0)) rfl (ev_addB (Ev.r (b := true) (ev_addB (Ev.r (b := true) (ev_ix (ee_own rfl) (Ev.r (b := true) ev_int) (atI_nat (j := 1) (att 1 (by decide))))) (Ev.r (b := true) ev_str) (by walk_at "zs") (by decide))) (er_var rfl) (by walk_at "zs") (by decide)) (Ev.r (b := true) ev_int) (by rw [L8]; rfl) ?_
  walk_at "nm"
  refine q_set (b := true) (k0 := 2) (j0 := 2) (d := .str ((txS nm (wkC ce) 2 ++ " ") ++ nm 1)) rfl (ev_addB (Ev.r (b := true) (ev_addB (Ev.r (b := true) (ev_ix (ee_own rfl) (Ev.r (b := true) ev_int) (atI_nat (j := 2) (by rw [List.getElem?_set_ne (by decide)]; exact att 2 (by decide))))) (Ev.r (b := true) ev_str) (by walk_at "zs") (by decide))) (er_var rfl) (by walk_at "zs") (by decide)) (Ev.r (b := true) ev_int) (by rw [List.length_set, L8]; rfl) ?_
  walk_at "nm"
  rw [set_ty]
  have ecut : cutL (xs.map PyData.int) (some 2) (some 63) = ((xs.drop 2).take 61).map PyData.int := by
    have := cutL_mid (xs.map PyData.int) 2 63
    rw [List.map_take, List.map_drop]
    exact this
  refine q_for (b := false) (xs := [2] ++ (xs.drop 2).take 61) (enc := PyData.int) (Ev.is (d := .list ([.int 2] ++ cutL (xs.map PyData.int) (some 2) (some 63))) (EvL.ev (el_cat (EvL.t (el_lst (ef_cons ev_int ef_nil) (Nat.le_of_ble_eq_true rfl))) (EvL.t (el_sl (ee_val rfl) (eo_some (Ev.r (b := false) ev_int)) (eo_some (Ev.r (b := false) ev_int)))) (by rw [ecut, List.length_map, List.length_take, List.length_singleton]; omega))) (by rw [ecut, List.map_append]; rfl)) (fun _ ρ => Le [.val false (iL xs), .bk C_Book a0 A2 (bkS nm (wkC ce) 8 (ps2 nm)), .val true (.list (((List.range 9).map nm).map PyData.str)), .val true (.int ce), .val true (.str (nm 0)), .val true (.str (nm 1)), .val true (.str (nm 2)), .val true (.str (nm 8)), .own true (((List.range 8).map (tyS nm (wkC ce))).map PyData.str), .no, .no, .no, .no, .no, .no, .no, .no, .no, .no] ρ) (by walk_at "le") (fun B' i x ρ1 hx l => ⟨_, _, tg_weak l tg_name, ?_⟩) fun ρ1 l => ?_
  · have sx : Sz 1048576 x := by
      rcases List.mem_append.mp (List.mem_of_getElem? hx) with h | h
      · rw [List.mem_singleton] at h
        rw [h]
        exact ⟨by decide +kernel⟩
      · exact hz x (List.mem_of_mem_drop (List.mem_of_mem_take h))
    walk_at "nm"
    refine q_valN (b := true) (P := fun d => ∃ m, NoN m ∧ d = .list (((rW (nm 0) (nm 8) ++ rN (nm 0) (nm 8) m) ++ rT (nm 0) (nm 1) (nm 2) (nm 8)).map rowD)) (EvN.mono (EvLN.ev (el_catN (Px := fun zs => ∃ m, NoN m ∧ zs = (rW (nm 0) (nm 8) ++ rN (nm 0) (nm 8) m).map rowD) (Py := fun zs => zs = (rT (nm 0) (nm 1) (nm 2) (nm 8)).map rowD)
      (EvN.mono (EvLN.ev (el_catN (Px := fun zs => zs = (rW (nm 0) (nm 8)).map rowD) (Py := fun zs => ∃ m, NoN m ∧ zs = (rN (nm 0) (nm 8) m).map rowD)
        ((ev_callN (ds := [.str (nm 0), .str (nm 8)]) (ea_cons (er_var rfl) (ea_cons (er_var rfl) ea_nil)) ⟨_, _, rfl, NM.ok 0, NM.ok 8⟩).mono fun r hr => ⟨_, hr _ _ rfl, rfl⟩)
        ((ev_callNA (PA := fun ds => ∃ m, ds = [.str (nm 0), .str (nm 8), .str m] ∧ NoN m) (ea_consD (er_var rfl) (ea_consD (er_var rfl) (ea_consN (b := true) (ev_callN (ds := [.str (nm 0), .int x]) (ea_cons (er_var rfl) (ea_cons (er_var rfl) ea_nil)) ⟨_, _, rfl, NM.ok 0, sx⟩) fun d hd => EvA.n ea_nil (by obtain ⟨m, rfl, hm⟩ := hd; exact ⟨m, rfl, hm⟩)))) (fun ds ⟨m, e, hm⟩ => ⟨_, _, m, e, NM.ok 0, NM.ok 8, hm.2.1⟩)).mono fun r ⟨ds, ⟨m, e, hm⟩, hr⟩ => ⟨_, hr _ _ m e, m, hm, rfl⟩)
        (fun zs ys e1 ⟨m, _, e2⟩ => by rw [e1, e2]; exact Nat.le_of_ble_eq_true rfl)))
        fun d ⟨zs, e, ws, ys, e1, e2, m, hm, e3⟩ => ⟨zs, e, m, hm, by rw [e1, e2, e3, List.map_append]⟩)
      ((ev_callN (ds := [.str (nm 0), .str (nm 1), .str (nm 2), .str (nm 8)]) (ea_cons (er_var rfl) (ea_cons (er_var rfl) (ea_cons (er_var rfl) (ea_cons (er_var rfl) ea_nil)))) ⟨_, _, _, _, rfl, NM.ok 0, NM.ok 1, NM.ok 2, NM.ok 8⟩).mono fun r hr => ⟨_, hr _ _ _ _ rfl, rfl⟩)
      (fun zs ys ⟨m, _, e1⟩ e2 => by rw [e1, e2]; exact Nat.le_of_ble_eq_true rfl)))
      fun d ⟨zs, e, ws, ys, e1, ⟨m, hm, e2⟩, e3⟩ => ⟨m, hm, by rw [e, e1, e2, e3, List.map_append (l₂ := rT (nm 0) (nm 1) (nm 2) (nm 8))]⟩) fun d hd => ?_
    obtain ⟨m, hm, rfl⟩ := hd
    walk_at "nm"
    have good : ∀ p ∈ (rW (nm 0) (nm 8) ++ rN (nm 0) (nm 8) m) ++ rT (nm 0) (nm 1) (nm 2) (nm 8), GoodRow (fun B => B = bkS nm (wkC ce) 8 (ps2 nm)) p :=
      all_app (all_app (fun p hp => (good_W (NM.ok 0) (NM.ok 8) p hp).mono fun _ _ => trivial) fun p hp => (good_N (NM.ok 0) (NM.ok 8) hm p hp).mono fun B e => by
        rw [e]
        have t := ctxT (wk := wkC ce) NM
        exact ⟨t.ha, t.hu, has_no (ok2 NM) (fun q => (by
          have := (ok2 (wk := wkC ce) NM).nz m q
          rw [hm.1] at this
          cases this)), hm.1⟩) fun p hp => (good_T (NM.ok 0) (NM.ok 1) (NM.ok 2) (NM.ok 8) p hp).mono fun B e => by rw [e]; exact ctxT NM
    have hL : ((rW (nm 0) (nm 8) ++ rN (nm 0) (nm 8) m) ++ rT (nm 0) (nm 1) (nm 2) (nm 8)).length = 72 := rfl
    generalize (rW (nm 0) (nm 8) ++ rN (nm 0) (nm 8) m) ++ rT (nm 0) (nm 1) (nm 2) (nm 8) = Lr at good hL
    have x72 := Int.emod_lt_of_pos (mixZ x 6) (show (0 : Int) < 72 by decide)
    obtain ⟨p, hp, hat⟩ := atI_some (xs := Lr) (i := mixZ x 6 % 72) (Int.emod_nonneg _ (by decide)) (by rw [hL]; exact x72)
    refine q_tg (b := true) (d := rowD p) (ev_ix (ee_val rfl) (Ev.r (b := false) (ev_opI (C := fun _ j => 0 < j) (g := fun i j => .int (i % j)) (i := mixZ x 6) (j := 72) (by walk_at "dl") (Ev.r (b := false) (Ev.is (ev_len (er_var rfl)) (by rw [List.length_map, hL]; rfl))) (by decide) (.int _))) (atI_mapS hat)) (show TgOk _ _ _ _ _ (.tuple [.str p.1, .int p.2]) _ from tg_tup2) ?_
    walk_at "nm"
    obtain ⟨e, hk, hlr, smr, sr⟩ := good p hp
    have nS : SeqAt.shaped (.list ((errL e).map PyData.bool)) = true := by cases e <;> rfl
    have nR : PyData.eqv (.list ((errL e).map PyData.bool)) (.list ((errL e).map PyData.bool)) = true := by cases e <;> rfl
    refine q_when (x := false) (EvB.is (eb_test (Ev.r (b := false) (ev_neD (d := .list ((errL e).map PyData.bool)) (e := .list ((errL e).map PyData.bool)) (EvRa.r (era_callSFO (ds := [.str p.1]) rfl (ea_cons (er_var rfl) ea_nil) rfl ⟨_, p.1, e, rfl, ok2 NM, hlr, smr, sr _ rfl, rfl⟩)) (Ev.r (b := true) (Ev.is (EvL.ev (el_cat (EvL.t (el_lcR (n := 5) (js := [9]) (fun _ => true) (fun k => .bool (decide (p.2 = (k : Int) + 1))) (by walk_at "dl") (by decide) (by simp) fun k hk => ⟨_, tg_name, eb_yes, fun _ => ev_eqI (er_var rfl) (by walk_at "dl")⟩)) (EvL.t (el_lst (ef_cons ev_bl ef_nil) (Nat.le_of_ble_eq_true rfl))) (by rw [lc_all, List.length_map, List.length_range]; decide))) (by rw [lc_all, hk]; cases e <;> rfl))) nS nS))) (by rw [nR]; rfl)) (fun h => nomatch h) fun _ => ?_
    have nT : Nice 1 (.list (((List.range 8).map (tyS nm (wkC ce))).map PyData.str)) := nice_strs (all_map fun k hk => tyOk NM WK (List.mem_range.mp hk))
    refine go_when (x := false || false) (eb_or (EvB.is (eb_test (Ev.r (b := false) (ev_neZ (Ev.r (b := false) (say_names (i := 1) rfl (ok2 NM) (numS WK))) (Ev.r (b := true) (ev_joinB (ys := (List.range 8).map nm) 10 10 (Ev.r (b := true) ev_str) (Ev.r (b := true) (Ev.is (EvL.ev (el_sl (ee_val rfl) eo_none (eo_some (Ev.r (b := true) ev_int)))) (by rw [cut8]))) (by rw [List.length_map, List.length_range]; decide) (all_map fun k hk => by have := (name_of (NM.ok k)).2.1; omega) (by decide +kernel) (by decide)))))) (by simp [bkS])) fun _ => EvB.is (eb_test (Ev.r (b := false) (ev_neD (d := .list (((List.range 8).map (tyS nm (wkC ce))).map PyData.str)) (e := .list (((List.range 8).map (tyS nm (wkC ce))).map PyData.str)) (Ev.r (b := true) (Ev.is (EvL.ev (el_lc (b0 := true) (xs := (List.range 8).map nm) (enc := PyData.str) (js := [16]) (fun _ => true) (fun n => .str (showB (bkS nm (wkC ce) 8 (ps2 nm)) n)) (EvE.is (EvL.e (el_sl (ee_val rfl) eo_none (eo_some (Ev.r (b := true) ev_int)))) cut8) (by rw [List.length_map, List.length_range]; decide) (by simp) fun n hn => ⟨_, tg_name, eb_yes, fun _ => ?_⟩)) ?_)) (er_own rfl) (nT.shaped (by decide)) (nT.shaped (by decide))))) (by rw [nT.refl]; rfl)) (fun h => nomatch h) fun _ => nx_pst (by walk_at "le")
    · obtain ⟨k, hk, rfl⟩ := List.mem_map.mp hn
      have hk := List.mem_range.mp hk
      have lk := name_sz (NM.ok k)
      exact say_show (i := 1) rfl (ok2 NM) (numS WK) (Ev.r (b := true) (ev_addB (Ev.r (b := true) ev_str) (er_var rfl) (by walk_at "zs") (by decide))) (hasS (ok2 NM) hk)
    · rw [lc_all, List.map_map, List.map_map]
      congr 1
      refine List.map_congr_left fun k hk => ?_
      show PyData.str (showB (bkS nm (wkC ce) 8 (ps2 nm)) (nm k)) = PyData.str (tyS nm (wkC ce) k)
      rw [showS NM (List.mem_range.mp hk)]
  refine go_weak l ?_
  refine q_val (b := true) (d := .int (mixZ ce 30 % 8)) (by walk_at "dl") ?_
  obtain ⟨at_, hat⟩ := nat_of (Int.emod_nonneg (mixZ ce 30) (show (8 : Int) ≠ 0 by decide))
  have at8 : at_ < 8 := by
    have := Int.emod_lt_of_pos (mixZ ce 30) (show (0 : Int) < 8 by decide)
    omega
  rw [hat]
  walk_at "nm"
  have lk := name_sz (NM.ok at_)
  refine q_whenC (eb_orCC (Nat.le_of_ble_eq_true rfl) (ec_ok (say_chg (i := 1) rfl (ok2 NM) (ev_addB (Ev.r (b := true) ev_str) (Ev.r (b := true) (ev_ix (ee_val rfl) (er_var rfl) (at9 at_ (by omega)))) (by walk_at "zs") (by decide)) (SzS.le (by walk_at "zs") (by decide)) (spl_drop (NM.ok at_)) ⟨Nat.le_of_ble_eq_true rfl, alw_cons (by decide +kernel) (alw_cons (name100 (NM.ok at_)) alw_nil)⟩ (chg_drop NM at8))) fun A3 _ => ec_ok (say_chg (i := 1) (B := bk3 nm (wkC ce) at_) rfl (ok3 NM) (ev_addB (Ev.r (b := true) (ev_addB (Ev.r (b := true) ev_str) (er_var rfl) (by walk_at "zs") (by decide))) (Ev.r (b := true) ev_str) (by walk_at "zs") (by decide)) (SzS.le (by walk_at "zs") (by decide)) (spl_321 (NM.ok 8)) (small_work (name100 (NM.ok 8)) (by decide +kernel) (by decide +kernel) (by decide +kernel)) (chg_321 NM at8))) fun A4 _ => ?_
  walk_at "nm"
  refine q_val (b := true) (d := .list ((((List.range 8).filter fun j => !decide (j = at_)).map nm ++ [nm 8]).map PyData.str)) (Ev.is (EvL.ev (el_cat (EvL.t (el_lcR (n := 8) (js := [9]) (fun k => !decide (k = at_)) (fun k => .str (nm k)) (by walk_at "dl") (by decide) (by simp) fun k hk => ⟨_, tg_name, EvB.is (eb_test (Ev.r (b := true) (ev_neI (er_var rfl) (er_var rfl)))) (by congr 1; rw [decide_eq_decide]; omega), fun _ => ev_ix (ee_val rfl) (er_var rfl) (at9 k (by omega))⟩)) (EvL.t (el_lst (ef_cons (ev_var rfl) ef_nil) (Nat.le_of_ble_eq_true rfl))) (by rw [List.length_map]; have := List.length_filter_le (fun k => !decide (k = at_)) (List.range 8); rw [List.length_range] at this; show _ + 1 ≤ _; omega))) (by rw [List.map_append, List.map_map]; rfl)) ?_
  walk_at "nm"
  have ok4 := ok4 (wk := wkC ce) NM at8
  have s321 : showB (bk4 nm (wkC ce) at_) (nm 8) = "3 2 1" := show4 NM
  have s723 : showB (bk5 nm (wkC ce) at_) (nm 8) = "7 2 3" := show5 NM
  have n4 := names4 (wk := wkC ce) NM at8
  refine q_when (x := false || false) (eb_or (EvB.is (eb_test (Ev.r (b := false) (ev_neZ (Ev.r (b := false) (say_names (i := 1) (B := bk4 nm (wkC ce) at_) rfl ok4 (num4 WK))) (Ev.r (b := true) (ev_joinB (ys := ((List.range 8).filter fun j => !decide (j = at_)).map nm ++ [nm 8]) 10 10 (Ev.r (b := true) ev_str) (er_var rfl) (by rw [← n4]; have := ok4.le; omega) (fun y hy => by rw [← n4] at hy; have := (name_of (ok4.nz y hy)).2.1; omega) (by decide +kernel) (by decide)))))) (by rw [n4]; simp)) fun _ => EvB.is (eb_test (Ev.r (b := false) (ev_neZ (Ev.r (b := false) (say_show (i := 1) (B := bk4 nm (wkC ce) at_) rfl ok4 (num4 WK) (Ev.r (b := true) (ev_addB (Ev.r (b := true) ev_str) (er_var rfl) (by walk_at "zs") (by decide))) (has4 NM))) (Ev.r (b := true) ev_str)))) (by rw [s321]; simp)) (fun h => nomatch h) fun _ => ?_
  refine go_retC (ev_andCB (ec_okE (say_chg (i := 1) (B := bk4 nm (wkC ce) at_) rfl ok4 (ev_addB (Ev.r (b := true) (ev_addB (Ev.r (b := true) ev_str) (er_var rfl) (by walk_at "zs") (by decide))) (Ev.r (b := true) ev_str) (by walk_at "zs") (by decide)) (SzS.le (by walk_at "zs") (by decide)) (spl_723 (NM.ok 8)) (small_work (name100 (NM.ok 8)) (by decide +kernel) (by decide +kernel) (by decide +kernel)) (chg_723 NM))) fun A5 _ => Ev.r (b := false) (Ev.is (ev_eqZ (Ev.r (b := false) (say_show (i := 1) (B := bk5 nm (wkC ce) at_) rfl (ok5 NM at8) (num5 WK) (Ev.r (b := true) (ev_addB (Ev.r (b := true) ev_str) (er_var rfl) (by walk_at "zs") (by decide))) (has5 NM))) (Ev.r (b := true) ev_str)) (by rw [s723]; simp))) hQ
end
theorem all_mk {P : Program} {w : World} {K : PySem.W.Frag} {h : Heap} {mg : Str → Option Value} {fa : Addr} (X : K.In h) (G : h.Ns mainGlobals mg) (hfa : mg "law" = some (.ref fa))
    {f0 : Addr} {od0 an0 : Option Addr} {sl0 : Array (Option Value)} {oc0 kV0 dc0 pm0 cd0 ct0 : Value}
    {f1 : Addr} {od1 an1 : Option Addr} {sl1 : Array (Option Value)} {oc1 kV1 dc1 pm1 cd1 ct1 : Value}
    {f2 : Addr} {od2 an2 : Option Addr} {sl2 : Array (Option Value)} {oc2 kV2 dc2 pm2 cd2 ct2 : Value}
    {f3 : Addr} {od3 an3 : Option Addr} {sl3 : Array (Option Value)} {oc3 kV3 dc3 pm3 cd3 ct3 : Value}
    {f4 : Addr} {od4 an4 : Option Addr} {sl4 : Array (Option Value)} {oc4 kV4 dc4 pm4 cd4 ct4 : Value}
    {f5 : Addr} {od5 an5 : Option Addr} {sl5 : Array (Option Value)} {oc5 kV5 dc5 pm5 cd5 ct5 : Value}
    {f6 : Addr} {od6 an6 : Option Addr} {sl6 : Array (Option Value)} {oc6 kV6 dc6 pm6 cd6 ct6 : Value}
    {f7 : Addr} {od7 an7 : Option Addr} {sl7 : Array (Option Value)} {oc7 kV7 dc7 pm7 cd7 ct7 : Value}
    {f8 : Addr} {od8 an8 : Option Addr} {sl8 : Array (Option Value)} {oc8 kV8 dc8 pm8 cd8 ct8 : Value}
    {f9 : Addr} {od9 an9 : Option Addr} {sl9 : Array (Option Value)} {oc9 kV9 dc9 pm9 cd9 ct9 : Value}
    {f10 : Addr} {od10 an10 : Option Addr} {sl10 : Array (Option Value)} {oc10 kV10 dc10 pm10 cd10 ct10 : Value}
    {f11 : Addr} {od11 an11 : Option Addr} {sl11 : Array (Option Value)} {oc11 kV11 dc11 pm11 cd11 ct11 : Value}
    {f12 : Addr} {od12 an12 : Option Addr} {sl12 : Array (Option Value)} {oc12 kV12 dc12 pm12 cd12 ct12 : Value}
    {f13 : Addr} {od13 an13 : Option Addr} {sl13 : Array (Option Value)} {oc13 kV13 dc13 pm13 cd13 ct13 : Value}
    {f14 : Addr} {od14 an14 : Option Addr} {sl14 : Array (Option Value)} {oc14 kV14 dc14 pm14 cd14 ct14 : Value}
    {f15 : Addr} {od15 an15 : Option Addr} {sl15 : Array (Option Value)} {oc15 kV15 dc15 pm15 cd15 ct15 : Value}
    {f16 : Addr} {od16 an16 : Option Addr} {sl16 : Array (Option Value)} {oc16 kV16 dc16 pm16 cd16 ct16 : Value}
    {f17 : Addr} {od17 an17 : Option Addr} {sl17 : Array (Option Value)} {oc17 kV17 dc17 pm17 cd17 ct17 : Value}
    {f18 : Addr} {od18 an18 : Option Addr} {sl18 : Array (Option Value)} {oc18 kV18 dc18 pm18 cd18 ct18 : Value}
    {f19 : Addr} {od19 an19 : Option Addr} {sl19 : Array (Option Value)} {oc19 kV19 dc19 pm19 cd19 ct19 : Value}
    {f20 : Addr} {od20 an20 : Option Addr} {sl20 : Array (Option Value)} {oc20 kV20 dc20 pm20 cd20 ct20 : Value}
    {f21 : Addr} {od21 an21 : Option Addr} {sl21 : Array (Option Value)} {oc21 kV21 dc21 pm21 cd21 ct21 : Value}
    {f22 : Addr} {od22 an22 : Option Addr} {sl22 : Array (Option Value)} {oc22 kV22 dc22 pm22 cd22 ct22 : Value}
    {f23 : Addr} {od23 an23 : Option Addr} {sl23 : Array (Option Value)} {oc23 kV23 dc23 pm23 cd23 ct23 : Value}
    {f24 : Addr} {od24 an24 : Option Addr} {sl24 : Array (Option Value)} {oc24 kV24 dc24 pm24 cd24 ct24 : Value}
    {f25 : Addr} {od25 an25 : Option Addr} {sl25 : Array (Option Value)} {oc25 kV25 dc25 pm25 cd25 ct25 : Value}
    {f26 : Addr} {od26 an26 : Option Addr} {sl26 : Array (Option Value)} {oc26 kV26 dc26 pm26 cd26 ct26 : Value}
    {f27 : Addr} {od27 an27 : Option Addr} {sl27 : Array (Option Value)} {oc27 kV27 dc27 pm27 cd27 ct27 : Value}
    {f28 : Addr} {od28 an28 : Option Addr} {sl28 : Array (Option Value)} {oc28 kV28 dc28 pm28 cd28 ct28 : Value}
    {f29 : Addr} {od29 an29 : Option Addr} {sl29 : Array (Option Value)} {oc29 kV29 dc29 pm29 cd29 ct29 : Value}
    {f30 : Addr} {od30 an30 : Option Addr} {sl30 : Array (Option Value)} {oc30 kV30 dc30 pm30 cd30 ct30 : Value}
    {f31 : Addr} {od31 an31 : Option Addr} {sl31 : Array (Option Value)} {oc31 kV31 dc31 pm31 cd31 ct31 : Value}
    {f32 : Addr} {od32 an32 : Option Addr} {sl32 : Array (Option Value)} {oc32 kV32 dc32 pm32 cd32 ct32 : Value}
    {f33 : Addr} {od33 an33 : Option Addr} {sl33 : Array (Option Value)} {oc33 kV33 dc33 pm33 cd33 ct33 : Value}
    {f34 : Addr} {od34 an34 : Option Addr} {sl34 : Array (Option Value)} {oc34 kV34 dc34 pm34 cd34 ct34 : Value}
    {f35 : Addr} {od35 an35 : Option Addr} {sl35 : Array (Option Value)} {oc35 kV35 dc35 pm35 cd35 ct35 : Value}
    {f36 : Addr} {od36 an36 : Option Addr} {sl36 : Array (Option Value)} {oc36 kV36 dc36 pm36 cd36 ct36 : Value}
    {f37 : Addr} {od37 an37 : Option Addr} {sl37 : Array (Option Value)} {oc37 kV37 dc37 pm37 cd37 ct37 : Value}
    {f38 : Addr} {od38 an38 : Option Addr} {sl38 : Array (Option Value)} {oc38 kV38 dc38 pm38 cd38 ct38 : Value}
    {f39 : Addr} {od39 an39 : Option Addr} {sl39 : Array (Option Value)} {oc39 kV39 dc39 pm39 cd39 ct39 : Value}
    {f40 : Addr} {od40 an40 : Option Addr} {sl40 : Array (Option Value)} {oc40 kV40 dc40 pm40 cd40 ct40 : Value}
    {f41 : Addr} {od41 an41 : Option Addr} {sl41 : Array (Option Value)} {oc41 kV41 dc41 pm41 cd41 ct41 : Value}
    {f42 : Addr} {od42 an42 : Option Addr} {sl42 : Array (Option Value)} {oc42 kV42 dc42 pm42 cd42 ct42 : Value}
    {f43 : Addr} {od43 an43 : Option Addr} {sl43 : Array (Option Value)} {oc43 kV43 dc43 pm43 cd43 ct43 : Value}
    {f44 : Addr} {od44 an44 : Option Addr} {sl44 : Array (Option Value)} {oc44 kV44 dc44 pm44 cd44 ct44 : Value}
    {f45 : Addr} {od45 an45 : Option Addr} {sl45 : Array (Option Value)} {oc45 kV45 dc45 pm45 cd45 ct45 : Value}
    {f46 : Addr} {od46 an46 : Option Addr} {sl46 : Array (Option Value)} {oc46 kV46 dc46 pm46 cd46 ct46 : Value}
    {f47 : Addr} {od47 an47 : Option Addr} {sl47 : Array (Option Value)} {oc47 kV47 dc47 pm47 cd47 ct47 : Value}
    {f48 : Addr} {od48 an48 : Option Addr} {sl48 : Array (Option Value)} {oc48 kV48 dc48 pm48 cd48 ct48 : Value}
    {f49 : Addr} {od49 an49 : Option Addr} {sl49 : Array (Option Value)} {oc49 kV49 dc49 pm49 cd49 ct49 : Value}
    {f50 : Addr} {od50 an50 : Option Addr} {sl50 : Array (Option Value)} {oc50 kV50 dc50 pm50 cd50 ct50 : Value}
    {f51 : Addr} {od51 an51 : Option Addr} {sl51 : Array (Option Value)} {oc51 kV51 dc51 pm51 cd51 ct51 : Value}
    {f52 : Addr} {od52 an52 : Option Addr} {sl52 : Array (Option Value)} {oc52 kV52 dc52 pm52 cd52 ct52 : Value}
    {f53 : Addr} {od53 an53 : Option Addr} {sl53 : Array (Option Value)} {oc53 kV53 dc53 pm53 cd53 ct53 : Value}
    {f54 : Addr} {od54 an54 : Option Addr} {sl54 : Array (Option Value)} {oc54 kV54 dc54 pm54 cd54 ct54 : Value}
    {f55 : Addr} {od55 an55 : Option Addr} {sl55 : Array (Option Value)} {oc55 kV55 dc55 pm55 cd55 ct55 : Value}
    {f56 : Addr} {od56 an56 : Option Addr} {sl56 : Array (Option Value)} {oc56 kV56 dc56 pm56 cd56 ct56 : Value}
    {C_Book : Addr}
    (ac_Book : PySem.W.nsIn K mainGlobals "Book" = some (some (.ref C_Book)))
    (a0 : PySem.W.nsIn K mainGlobals "waits" = some (some (.ref f0))) (l0 : K.lookup f0 = some ⟨oc0, od0, .func (PySem.W.fnOf "waits" "waits" (defArgs s_waits) (defBody s_waits) (defScope s_waits) .none kV0 dc0 pm0 an0 cd0 ct0), sl0⟩) (c0 : PySem.W.codeIn K cd0 "waits" = true) (k0 : PySem.W.keepIn K (.ref f0) = true)
    (a1 : PySem.W.nsIn K mainGlobals "order_of" = some (some (.ref f1))) (l1 : K.lookup f1 = some ⟨oc1, od1, .func (PySem.W.fnOf "order_of" "order_of" (defArgs s_order_of) (defBody s_order_of) (defScope s_order_of) .none kV1 dc1 pm1 an1 cd1 ct1), sl1⟩) (c1 : PySem.W.codeIn K cd1 "order_of" = true) (k1 : PySem.W.keepIn K (.ref f1) = true)
    (a2 : PySem.W.nsIn K mainGlobals "earliest" = some (some (.ref f2))) (l2 : K.lookup f2 = some ⟨oc2, od2, .func (PySem.W.fnOf "earliest" "earliest" (defArgs s_earliest) (defBody s_earliest) (defScope s_earliest) .none kV2 dc2 pm2 an2 cd2 ct2), sl2⟩) (c2 : PySem.W.codeIn K cd2 "earliest" = true) (k2 : PySem.W.keepIn K (.ref f2) = true)
    (a3 : PySem.W.nsIn K mainGlobals "length" = some (some (.ref f3))) (l3 : K.lookup f3 = some ⟨oc3, od3, .func (PySem.W.fnOf "length" "length" (defArgs s_length) (defBody s_length) (defScope s_length) .none kV3 dc3 pm3 an3 cd3 ct3), sl3⟩) (c3 : PySem.W.codeIn K cd3 "length" = true) (k3 : PySem.W.keepIn K (.ref f3) = true)
    (a4 : PySem.W.nsIn K mainGlobals "latest" = some (some (.ref f4))) (l4 : K.lookup f4 = some ⟨oc4, od4, .func (PySem.W.fnOf "latest" "latest" (defArgs s_latest) (defBody s_latest) (defScope s_latest) .none kV4 dc4 pm4 an4 cd4 ct4), sl4⟩) (c4 : PySem.W.codeIn K cd4 "latest" = true) (k4 : PySem.W.keepIn K (.ref f4) = true)
    (a5 : PySem.W.nsIn K mainGlobals "spare" = some (some (.ref f5))) (l5 : K.lookup f5 = some ⟨oc5, od5, .func (PySem.W.fnOf "spare" "spare" (defArgs s_spare) (defBody s_spare) (defScope s_spare) .none kV5 dc5 pm5 an5 cd5 ct5), sl5⟩) (c5 : PySem.W.codeIn K cd5 "spare" = true) (k5 : PySem.W.keepIn K (.ref f5) = true)
    (a6 : PySem.W.nsIn K mainGlobals "longest" = some (some (.ref f6))) (l6 : K.lookup f6 = some ⟨oc6, od6, .func (PySem.W.fnOf "longest" "longest" (defArgs s_longest) (defBody s_longest) (defScope s_longest) .none kV6 dc6 pm6 an6 cd6 ct6), sl6⟩) (c6 : PySem.W.codeIn K cd6 "longest" = true) (k6 : PySem.W.keepIn K (.ref f6) = true)
    (a7 : PySem.W.nsIn K mainGlobals "arcs_of" = some (some (.ref f7))) (l7 : K.lookup f7 = some ⟨oc7, od7, .func (PySem.W.fnOf "arcs_of" "arcs_of" (defArgs s_arcs_of) (defBody s_arcs_of) (defScope s_arcs_of) .none kV7 dc7 pm7 an7 cd7 ct7), sl7⟩) (c7 : PySem.W.codeIn K cd7 "arcs_of" = true) (k7 : PySem.W.keepIn K (.ref f7) = true)
    (a8 : PySem.W.nsIn K mainGlobals "steps_of" = some (some (.ref f8))) (l8 : K.lookup f8 = some ⟨oc8, od8, .func (PySem.W.fnOf "steps_of" "steps_of" (defArgs s_steps_of) (defBody s_steps_of) (defScope s_steps_of) .none kV8 dc8 pm8 an8 cd8 ct8), sl8⟩) (c8 : PySem.W.codeIn K cd8 "steps_of" = true) (k8 : PySem.W.keepIn K (.ref f8) = true)
    (a9 : PySem.W.nsIn K mainGlobals "farthest" = some (some (.ref f9))) (l9 : K.lookup f9 = some ⟨oc9, od9, .func (PySem.W.fnOf "farthest" "farthest" (defArgs s_farthest) (defBody s_farthest) (defScope s_farthest) .none kV9 dc9 pm9 an9 cd9 ct9), sl9⟩) (c9 : PySem.W.codeIn K cd9 "farthest" = true) (k9 : PySem.W.keepIn K (.ref f9) = true)
    (a10 : PySem.W.nsIn K mainGlobals "way_to" = some (some (.ref f10))) (l10 : K.lookup f10 = some ⟨oc10, od10, .func (PySem.W.fnOf "way_to" "way_to" (defArgs s_way_to) (defBody s_way_to) (defScope s_way_to) .none kV10 dc10 pm10 an10 cd10 ct10), sl10⟩) (c10 : PySem.W.codeIn K cd10 "way_to" = true) (k10 : PySem.W.keepIn K (.ref f10) = true)
    (a11 : PySem.W.nsIn K mainGlobals "room_on" = some (some (.ref f11))) (l11 : K.lookup f11 = some ⟨oc11, od11, .func (PySem.W.fnOf "room_on" "room_on" (defArgs s_room_on) (defBody s_room_on) (defScope s_room_on) .none kV11 dc11 pm11 an11 cd11 ct11), sl11⟩) (c11 : PySem.W.codeIn K cd11 "room_on" = true) (k11 : PySem.W.keepIn K (.ref f11) = true)
    (a12 : PySem.W.nsIn K mainGlobals "sent" = some (some (.ref f12))) (l12 : K.lookup f12 = some ⟨oc12, od12, .func (PySem.W.fnOf "sent" "sent" (defArgs s_sent) (defBody s_sent) (defScope s_sent) .none kV12 dc12 pm12 an12 cd12 ct12), sl12⟩) (c12 : PySem.W.codeIn K cd12 "sent" = true) (k12 : PySem.W.keepIn K (.ref f12) = true)
    (a13 : PySem.W.nsIn K mainGlobals "levels" = some (some (.ref f13))) (l13 : K.lookup f13 = some ⟨oc13, od13, .func (PySem.W.fnOf "levels" "levels" (defArgs s_levels) (defBody s_levels) (defScope s_levels) .none kV13 dc13 pm13 an13 cd13 ct13), sl13⟩) (c13 : PySem.W.codeIn K cd13 "levels" = true) (k13 : PySem.W.keepIn K (.ref f13) = true)
    (a14 : PySem.W.nsIn K mainGlobals "least_end" = some (some (.ref f14))) (l14 : K.lookup f14 = some ⟨oc14, od14, .func (PySem.W.fnOf "least_end" "least_end" (defArgs s_least_end) (defBody s_least_end) (defScope s_least_end) .none kV14 dc14 pm14 an14 cd14 ct14), sl14⟩) (c14 : PySem.W.codeIn K cd14 "least_end" = true) (k14 : PySem.W.keepIn K (.ref f14) = true)
    (a15 : PySem.W.nsIn K mainGlobals "free_end" = some (some (.ref f15))) (l15 : K.lookup f15 = some ⟨oc15, od15, .func (PySem.W.fnOf "free_end" "free_end" (defArgs s_free_end) (defBody s_free_end) (defScope s_free_end) .none kV15 dc15 pm15 an15 cd15 ct15), sl15⟩) (c15 : PySem.W.codeIn K cd15 "free_end" = true) (k15 : PySem.W.keepIn K (.ref f15) = true)
    (a16 : PySem.W.nsIn K mainGlobals "plan_by" = some (some (.ref f16))) (l16 : K.lookup f16 = some ⟨oc16, od16, .func (PySem.W.fnOf "plan_by" "plan_by" (defArgs s_plan_by) (defBody s_plan_by) (defScope s_plan_by) .none kV16 dc16 pm16 an16 cd16 ct16), sl16⟩) (c16 : PySem.W.codeIn K cd16 "plan_by" = true) (k16 : PySem.W.keepIn K (.ref f16) = true)
    (a17 : PySem.W.nsIn K mainGlobals "plan_at" = some (some (.ref f17))) (l17 : K.lookup f17 = some ⟨oc17, od17, .func (PySem.W.fnOf "plan_at" "plan_at" (defArgs s_plan_at) (defBody s_plan_at) (defScope s_plan_at) .none kV17 dc17 pm17 an17 cd17 ct17), sl17⟩) (c17 : PySem.W.codeIn K cd17 "plan_at" = true) (k17 : PySem.W.keepIn K (.ref f17) = true)
    (a18 : PySem.W.nsIn K mainGlobals "ways_of" = some (some (.ref f18))) (l18 : K.lookup f18 = some ⟨oc18, od18, .func (PySem.W.fnOf "ways_of" "ways_of" (defArgs s_ways_of) (defBody s_ways_of) (defScope s_ways_of) .none kV18 dc18 pm18 an18 cd18 ct18), sl18⟩) (c18 : PySem.W.codeIn K cd18 "ways_of" = true) (k18 : PySem.W.keepIn K (.ref f18) = true)
    (a19 : PySem.W.nsIn K mainGlobals "stream_at" = some (some (.ref f19))) (l19 : K.lookup f19 = some ⟨oc19, od19, .func (PySem.W.fnOf "stream_at" "stream_at" (defArgs s_stream_at) (defBody s_stream_at) (defScope s_stream_at) .none kV19 dc19 pm19 an19 cd19 ct19), sl19⟩) (c19 : PySem.W.codeIn K cd19 "stream_at" = true) (k19 : PySem.W.keepIn K (.ref f19) = true)
    (a20 : PySem.W.nsIn K mainGlobals "too_long" = some (some (.ref f20))) (l20 : K.lookup f20 = some ⟨oc20, od20, .func (PySem.W.fnOf "too_long" "too_long" (defArgs s_too_long) (defBody s_too_long) (defScope s_too_long) .none kV20 dc20 pm20 an20 cd20 ct20), sl20⟩) (c20 : PySem.W.codeIn K cd20 "too_long" = true) (k20 : PySem.W.keepIn K (.ref f20) = true)
    (a21 : PySem.W.nsIn K mainGlobals "price_of" = some (some (.ref f21))) (l21 : K.lookup f21 = some ⟨oc21, od21, .func (PySem.W.fnOf "price_of" "price_of" (defArgs s_price_of) (defBody s_price_of) (defScope s_price_of) .none kV21 dc21 pm21 an21 cd21 ct21), sl21⟩) (c21 : PySem.W.codeIn K cd21 "price_of" = true) (k21 : PySem.W.keepIn K (.ref f21) = true)
    (a22 : PySem.W.nsIn K mainGlobals "corners" = some (some (.ref f22))) (l22 : K.lookup f22 = some ⟨oc22, od22, .func (PySem.W.fnOf "corners" "corners" (defArgs s_corners) (defBody s_corners) (defScope s_corners) .none kV22 dc22 pm22 an22 cd22 ct22), sl22⟩) (c22 : PySem.W.codeIn K cd22 "corners" = true) (k22 : PySem.W.keepIn K (.ref f22) = true)
    (a23 : PySem.W.nsIn K mainGlobals "steps_between" = some (some (.ref f23))) (l23 : K.lookup f23 = some ⟨oc23, od23, .func (PySem.W.fnOf "steps_between" "steps_between" (defArgs s_steps_between) (defBody s_steps_between) (defScope s_steps_between) .none kV23 dc23 pm23 an23 cd23 ct23), sl23⟩) (c23 : PySem.W.codeIn K cd23 "steps_between" = true) (k23 : PySem.W.keepIn K (.ref f23) = true)
    (a24 : PySem.W.nsIn K mainGlobals "price_at" = some (some (.ref f24))) (l24 : K.lookup f24 = some ⟨oc24, od24, .func (PySem.W.fnOf "price_at" "price_at" (defArgs s_price_at) (defBody s_price_at) (defScope s_price_at) .none kV24 dc24 pm24 an24 cd24 ct24), sl24⟩) (c24 : PySem.W.codeIn K cd24 "price_at" = true) (k24 : PySem.W.keepIn K (.ref f24) = true)
    (a25 : PySem.W.nsIn K mainGlobals "all_in" = some (some (.ref f25))) (l25 : K.lookup f25 = some ⟨oc25, od25, .func (PySem.W.fnOf "all_in" "all_in" (defArgs s_all_in) (defBody s_all_in) (defScope s_all_in) .none kV25 dc25 pm25 an25 cd25 ct25), sl25⟩) (c25 : PySem.W.codeIn K cd25 "all_in" = true) (k25 : PySem.W.keepIn K (.ref f25) = true)
    (a26 : PySem.W.nsIn K mainGlobals "is_name" = some (some (.ref f26))) (l26 : K.lookup f26 = some ⟨oc26, od26, .func (PySem.W.fnOf "is_name" "is_name" (defArgs s_is_name) (defBody s_is_name) (defScope s_is_name) .none kV26 dc26 pm26 an26 cd26 ct26), sl26⟩) (c26 : PySem.W.codeIn K cd26 "is_name" = true) (k26 : PySem.W.keepIn K (.ref f26) = true)
    (a27 : PySem.W.nsIn K mainGlobals "read_count" = some (some (.ref f27))) (l27 : K.lookup f27 = some ⟨oc27, od27, .func (PySem.W.fnOf "read_count" "read_count" (defArgs s_read_count) (defBody s_read_count) (defScope s_read_count) .none kV27 dc27 pm27 an27 cd27 ct27), sl27⟩) (c27 : PySem.W.codeIn K cd27 "read_count" = true) (k27 : PySem.W.keepIn K (.ref f27) = true)
    (a28 : PySem.W.nsIn K mainGlobals "end_for" = some (some (.ref f28))) (l28 : K.lookup f28 = some ⟨oc28, od28, .func (PySem.W.fnOf "end_for" "end_for" (defArgs s_end_for) (defBody s_end_for) (defScope s_end_for) .none kV28 dc28 pm28 an28 cd28 ct28), sl28⟩) (c28 : PySem.W.codeIn K cd28 "end_for" = true) (k28 : PySem.W.keepIn K (.ref f28) = true)
    (a29 : PySem.W.nsIn K mainGlobals "best_end" = some (some (.ref f29))) (l29 : K.lookup f29 = some ⟨oc29, od29, .func (PySem.W.fnOf "best_end" "best_end" (defArgs s_best_end) (defBody s_best_end) (defScope s_best_end) .none kV29 dc29 pm29 an29 cd29 ct29), sl29⟩) (c29 : PySem.W.codeIn K cd29 "best_end" = true) (k29 : PySem.W.keepIn K (.ref f29) = true)
    (a30 : PySem.W.nsIn K mainGlobals "best_sum" = some (some (.ref f30))) (l30 : K.lookup f30 = some ⟨oc30, od30, .func (PySem.W.fnOf "best_sum" "best_sum" (defArgs s_best_sum) (defBody s_best_sum) (defScope s_best_sum) .none kV30 dc30 pm30 an30 cd30 ct30), sl30⟩) (c30 : PySem.W.codeIn K cd30 "best_sum" = true) (k30 : PySem.W.keepIn K (.ref f30) = true)
    (a31 : PySem.W.nsIn K mainGlobals "is_said" = some (some (.ref f31))) (l31 : K.lookup f31 = some ⟨oc31, od31, .func (PySem.W.fnOf "is_said" "is_said" (defArgs s_is_said) (defBody s_is_said) (defScope s_is_said) .none kV31 dc31 pm31 an31 cd31 ct31), sl31⟩) (c31 : PySem.W.codeIn K cd31 "is_said" = true) (k31 : PySem.W.keepIn K (.ref f31) = true)
    (a32 : PySem.W.nsIn K mainGlobals "shown" = some (some (.ref f32))) (l32 : K.lookup f32 = some ⟨oc32, od32, .func (PySem.W.fnOf "shown" "shown" (defArgs s_shown) (defBody s_shown) (defScope s_shown) .none kV32 dc32 pm32 an32 cd32 ct32), sl32⟩) (c32 : PySem.W.codeIn K cd32 "shown" = true) (k32 : PySem.W.keepIn K (.ref f32) = true)
    (a33 : PySem.W.findIn K (.ref C_Book) "__init__" = some (some (.ref f33))) (i33 : PySem.W.isFn K (.ref f33) = true) (l33 : K.lookup f33 = some ⟨oc33, od33, .func (PySem.W.fnOf "__init__" "Book.__init__" (defArgs s_Book___init__) (defBody s_Book___init__) (defScope s_Book___init__) .none kV33 dc33 pm33 an33 cd33 ct33), sl33⟩) (c33 : PySem.W.codeIn K cd33 "Book.__init__" = true) (k33 : PySem.W.keepIn K (.ref f33) = true)
    (a34 : PySem.W.findIn K (.ref C_Book) "listed" = some (some (.ref f34))) (i34 : PySem.W.isFn K (.ref f34) = true) (l34 : K.lookup f34 = some ⟨oc34, od34, .func (PySem.W.fnOf "listed" "Book.listed" (defArgs s_Book_listed) (defBody s_Book_listed) (defScope s_Book_listed) .none kV34 dc34 pm34 an34 cd34 ct34), sl34⟩) (c34 : PySem.W.codeIn K cd34 "Book.listed" = true) (k34 : PySem.W.keepIn K (.ref f34) = true)
    (a35 : PySem.W.findIn K (.ref C_Book) "needs" = some (some (.ref f35))) (i35 : PySem.W.isFn K (.ref f35) = true) (l35 : K.lookup f35 = some ⟨oc35, od35, .func (PySem.W.fnOf "needs" "Book.needs" (defArgs s_Book_needs) (defBody s_Book_needs) (defScope s_Book_needs) .none kV35 dc35 pm35 an35 cd35 ct35), sl35⟩) (c35 : PySem.W.codeIn K cd35 "Book.needs" = true) (k35 : PySem.W.keepIn K (.ref f35) = true)
    (a36 : PySem.W.findIn K (.ref C_Book) "standing" = some (some (.ref f36))) (i36 : PySem.W.isFn K (.ref f36) = true) (l36 : K.lookup f36 = some ⟨oc36, od36, .func (PySem.W.fnOf "standing" "Book.standing" (defArgs s_Book_standing) (defBody s_Book_standing) (defScope s_Book_standing) .none kV36 dc36 pm36 an36 cd36 ct36), sl36⟩) (c36 : PySem.W.codeIn K cd36 "Book.standing" = true) (k36 : PySem.W.keepIn K (.ref f36) = true)
    (a37 : PySem.W.findIn K (.ref C_Book) "put_work" = some (some (.ref f37))) (i37 : PySem.W.isFn K (.ref f37) = true) (l37 : K.lookup f37 = some ⟨oc37, od37, .func (PySem.W.fnOf "put_work" "Book.put_work" (defArgs s_Book_put_work) (defBody s_Book_put_work) (defScope s_Book_put_work) .none kV37 dc37 pm37 an37 cd37 ct37), sl37⟩) (c37 : PySem.W.codeIn K cd37 "Book.put_work" = true) (k37 : PySem.W.keepIn K (.ref f37) = true)
    (a38 : PySem.W.findIn K (.ref C_Book) "put_need" = some (some (.ref f38))) (i38 : PySem.W.isFn K (.ref f38) = true) (l38 : K.lookup f38 = some ⟨oc38, od38, .func (PySem.W.fnOf "put_need" "Book.put_need" (defArgs s_Book_put_need) (defBody s_Book_put_need) (defScope s_Book_put_need) .none kV38 dc38 pm38 an38 cd38 ct38), sl38⟩) (c38 : PySem.W.codeIn K cd38 "Book.put_need" = true) (k38 : PySem.W.keepIn K (.ref f38) = true)
    (a39 : PySem.W.findIn K (.ref C_Book) "free_need" = some (some (.ref f39))) (i39 : PySem.W.isFn K (.ref f39) = true) (l39 : K.lookup f39 = some ⟨oc39, od39, .func (PySem.W.fnOf "free_need" "Book.free_need" (defArgs s_Book_free_need) (defBody s_Book_free_need) (defScope s_Book_free_need) .none kV39 dc39 pm39 an39 cd39 ct39), sl39⟩) (c39 : PySem.W.codeIn K cd39 "Book.free_need" = true) (k39 : PySem.W.keepIn K (.ref f39) = true)
    (a40 : PySem.W.findIn K (.ref C_Book) "drop" = some (some (.ref f40))) (i40 : PySem.W.isFn K (.ref f40) = true) (l40 : K.lookup f40 = some ⟨oc40, od40, .func (PySem.W.fnOf "drop" "Book.drop" (defArgs s_Book_drop) (defBody s_Book_drop) (defScope s_Book_drop) .none kV40 dc40 pm40 an40 cd40 ct40), sl40⟩) (c40 : PySem.W.codeIn K cd40 "Book.drop" = true) (k40 : PySem.W.keepIn K (.ref f40) = true)
    (a41 : PySem.W.findIn K (.ref C_Book) "change" = some (some (.ref f41))) (i41 : PySem.W.isFn K (.ref f41) = true) (l41 : K.lookup f41 = some ⟨oc41, od41, .func (PySem.W.fnOf "change" "Book.change" (defArgs s_Book_change) (defBody s_Book_change) (defScope s_Book_change) .none kV41 dc41 pm41 an41 cd41 ct41), sl41⟩) (c41 : PySem.W.codeIn K cd41 "Book.change" = true) (k41 : PySem.W.keepIn K (.ref f41) = true)
    (a42 : PySem.W.findIn K (.ref C_Book) "show" = some (some (.ref f42))) (i42 : PySem.W.isFn K (.ref f42) = true) (l42 : K.lookup f42 = some ⟨oc42, od42, .func (PySem.W.fnOf "show" "Book.show" (defArgs s_Book_show) (defBody s_Book_show) (defScope s_Book_show) .none kV42 dc42 pm42 an42 cd42 ct42), sl42⟩) (c42 : PySem.W.codeIn K cd42 "Book.show" = true) (k42 : PySem.W.keepIn K (.ref f42) = true)
    (a43 : PySem.W.findIn K (.ref C_Book) "told_plan" = some (some (.ref f43))) (i43 : PySem.W.isFn K (.ref f43) = true) (l43 : K.lookup f43 = some ⟨oc43, od43, .func (PySem.W.fnOf "told_plan" "Book.told_plan" (defArgs s_Book_told_plan) (defBody s_Book_told_plan) (defScope s_Book_told_plan) .none kV43 dc43 pm43 an43 cd43 ct43), sl43⟩) (c43 : PySem.W.codeIn K cd43 "Book.told_plan" = true) (k43 : PySem.W.keepIn K (.ref f43) = true)
    (a44 : PySem.W.findIn K (.ref C_Book) "told_why" = some (some (.ref f44))) (i44 : PySem.W.isFn K (.ref f44) = true) (l44 : K.lookup f44 = some ⟨oc44, od44, .func (PySem.W.fnOf "told_why" "Book.told_why" (defArgs s_Book_told_why) (defBody s_Book_told_why) (defScope s_Book_told_why) .none kV44 dc44 pm44 an44 cd44 ct44), sl44⟩) (c44 : PySem.W.codeIn K cd44 "Book.told_why" = true) (k44 : PySem.W.keepIn K (.ref f44) = true)
    (a45 : PySem.W.findIn K (.ref C_Book) "told_spare" = some (some (.ref f45))) (i45 : PySem.W.isFn K (.ref f45) = true) (l45 : K.lookup f45 = some ⟨oc45, od45, .func (PySem.W.fnOf "told_spare" "Book.told_spare" (defArgs s_Book_told_spare) (defBody s_Book_told_spare) (defScope s_Book_told_spare) .none kV45 dc45 pm45 an45 cd45 ct45), sl45⟩) (c45 : PySem.W.codeIn K cd45 "Book.told_spare" = true) (k45 : PySem.W.keepIn K (.ref f45) = true)
    (a46 : PySem.W.findIn K (.ref C_Book) "told_whole" = some (some (.ref f46))) (i46 : PySem.W.isFn K (.ref f46) = true) (l46 : K.lookup f46 = some ⟨oc46, od46, .func (PySem.W.fnOf "told_whole" "Book.told_whole" (defArgs s_Book_told_whole) (defBody s_Book_told_whole) (defScope s_Book_told_whole) .none kV46 dc46 pm46 an46 cd46 ct46), sl46⟩) (c46 : PySem.W.codeIn K cd46 "Book.told_whole" = true) (k46 : PySem.W.keepIn K (.ref f46) = true)
    (a47 : PySem.W.findIn K (.ref C_Book) "say" = some (some (.ref f47))) (i47 : PySem.W.isFn K (.ref f47) = true) (l47 : K.lookup f47 = some ⟨oc47, od47, .func (PySem.W.fnOf "say" "Book.say" (defArgs s_Book_say) (defBody s_Book_say) (defScope s_Book_say) .none kV47 dc47 pm47 an47 cd47 ct47), sl47⟩) (c47 : PySem.W.codeIn K cd47 "Book.say" = true) (k47 : PySem.W.keepIn K (.ref f47) = true)
    (a48 : PySem.W.nsIn K mainGlobals "_law_mix" = some (some (.ref f48))) (l48 : K.lookup f48 = some ⟨oc48, od48, .func (PySem.W.fnOf "_law_mix" "_law_mix" (defArgs s__law_mix) (defBody s__law_mix) (defScope s__law_mix) .none kV48 dc48 pm48 an48 cd48 ct48), sl48⟩) (c48 : PySem.W.codeIn K cd48 "_law_mix" = true) (k48 : PySem.W.keepIn K (.ref f48) = true)
    (a49 : PySem.W.nsIn K mainGlobals "_law_cell_at" = some (some (.ref f49))) (l49 : K.lookup f49 = some ⟨oc49, od49, .func (PySem.W.fnOf "_law_cell_at" "_law_cell_at" (defArgs s__law_cell_at) (defBody s__law_cell_at) (defScope s__law_cell_at) .none kV49 dc49 pm49 an49 cd49 ct49), sl49⟩) (c49 : PySem.W.codeIn K cd49 "_law_cell_at" = true) (k49 : PySem.W.keepIn K (.ref f49) = true)
    (a50 : PySem.W.nsIn K mainGlobals "_law_names" = some (some (.ref f50))) (l50 : K.lookup f50 = some ⟨oc50, od50, .func (PySem.W.fnOf "_law_names" "_law_names" (defArgs s__law_names) (defBody s__law_names) (defScope s__law_names) .none kV50 dc50 pm50 an50 cd50 ct50), sl50⟩) (c50 : PySem.W.codeIn K cd50 "_law_names" = true) (k50 : PySem.W.keepIn K (.ref f50) = true)
    (a51 : PySem.W.nsIn K mainGlobals "_law_no_name" = some (some (.ref f51))) (l51 : K.lookup f51 = some ⟨oc51, od51, .func (PySem.W.fnOf "_law_no_name" "_law_no_name" (defArgs s__law_no_name) (defBody s__law_no_name) (defScope s__law_no_name) .none kV51 dc51 pm51 an51 cd51 ct51), sl51⟩) (c51 : PySem.W.codeIn K cd51 "_law_no_name" = true) (k51 : PySem.W.keepIn K (.ref f51) = true)
    (a52 : PySem.W.nsIn K mainGlobals "_law_of_words" = some (some (.ref f52))) (l52 : K.lookup f52 = some ⟨oc52, od52, .func (PySem.W.fnOf "_law_of_words" "_law_of_words" (defArgs s__law_of_words) (defBody s__law_of_words) (defScope s__law_of_words) .none kV52 dc52 pm52 an52 cd52 ct52), sl52⟩) (c52 : PySem.W.codeIn K cd52 "_law_of_words" = true) (k52 : PySem.W.keepIn K (.ref f52) = true)
    (a53 : PySem.W.nsIn K mainGlobals "_law_of_names" = some (some (.ref f53))) (l53 : K.lookup f53 = some ⟨oc53, od53, .func (PySem.W.fnOf "_law_of_names" "_law_of_names" (defArgs s__law_of_names) (defBody s__law_of_names) (defScope s__law_of_names) .none kV53 dc53 pm53 an53 cd53 ct53), sl53⟩) (c53 : PySem.W.codeIn K cd53 "_law_of_names" = true) (k53 : PySem.W.keepIn K (.ref f53) = true)
    (a54 : PySem.W.nsIn K mainGlobals "_law_of_texts" = some (some (.ref f54))) (l54 : K.lookup f54 = some ⟨oc54, od54, .func (PySem.W.fnOf "_law_of_texts" "_law_of_texts" (defArgs s__law_of_texts) (defBody s__law_of_texts) (defScope s__law_of_texts) .none kV54 dc54 pm54 an54 cd54 ct54), sl54⟩) (c54 : PySem.W.codeIn K cd54 "_law_of_texts" = true) (k54 : PySem.W.keepIn K (.ref f54) = true)
    (a55 : PySem.W.nsIn K mainGlobals "_law_refused" = some (some (.ref f55))) (l55 : K.lookup f55 = some ⟨oc55, od55, .func (PySem.W.fnOf "_law_refused" "_law_refused" (defArgs s__law_refused) (defBody s__law_refused) (defScope s__law_refused) .none kV55 dc55 pm55 an55 cd55 ct55), sl55⟩) (c55 : PySem.W.codeIn K cd55 "_law_refused" = true) (k55 : PySem.W.keepIn K (.ref f55) = true)
    (a56 : PySem.W.nsIn K mainGlobals "law" = some (some (.ref f56))) (l56 : K.lookup f56 = some ⟨oc56, od56, .func (PySem.W.fnOf "law" "law" (defArgs s_law) (defBody s_law) (defScope s_law) .none kV56 dc56 pm56 an56 cd56 ct56), sl56⟩) (c56 : PySem.W.codeIn K cd56 "law" = true) (k56 : PySem.W.keepIn K (.ref f56) = true)
    (pg_Book : PySem.W.plainGet K C_Book Str.empty = true)
    (hd_Book : PySem.W.hasDictIn K C_Book = true)
    (po_Book : PySem.W.plainOver K C_Book = true)
    (sa_Book : PySem.W.findIn K (.ref C_Book) "__setattr__" = some (some (.builtin "object.__setattr__")))
    (mk_Book : PySem.W.makesIn K C_Book = true)
    (kc_Book : PySem.W.keepIn K (.ref C_Book) = true)
    (nn_Book : PySem.W.findIn K (.ref C_Book) "names" = some none)
    (nw_Book : PySem.W.findIn K (.ref C_Book) "works" = some none)
    (np_Book : PySem.W.findIn K (.ref C_Book) "pairs" = some none)
    (z_list : PySem.W.nsIn K mainGlobals "list" = some none)
    (z_range : PySem.W.nsIn K mainGlobals "range" = some none)
    (z_len : PySem.W.nsIn K mainGlobals "len" = some none)
    (z_max : PySem.W.nsIn K mainGlobals "max" = some none)
    (z_min : PySem.W.nsIn K mainGlobals "min" = some none)
    (z_int : PySem.W.nsIn K mainGlobals "int" = some none)
    (z_str : PySem.W.nsIn K mainGlobals "str" = some none)
    (z_isinstance : PySem.W.nsIn K mainGlobals "isinstance" = some none)
    (z_ValueError : PySem.W.nsIn K mainGlobals "ValueError" = some none)
    {ts_FIGURES : Tok} (zs_FIGURES : PySem.W.nsIn K mainGlobals "FIGURES" = some (some (.str "0123456789" ts_FIGURES)))
    {ts_LETTERS : Tok} (zs_LETTERS : PySem.W.nsIn K mainGlobals "LETTERS" = some (some (.str "abcdefghijklmnopqrstuvwxyz" ts_LETTERS)))
    {ts_MOST : Tok} (zs_MOST : PySem.W.nsIn K mainGlobals "MOST" = some (some (.int 8 ts_MOST)))
    {C_BookError C_NoOrder C_NoRoom C_NoRow C_NoName C_NoText : Addr}
    (xa_BookError : PySem.W.nsIn K mainGlobals "BookError" = some (some (.ref C_BookError)))
    (xa_NoOrder : PySem.W.nsIn K mainGlobals "NoOrder" = some (some (.ref C_NoOrder)))
    (xa_NoRoom : PySem.W.nsIn K mainGlobals "NoRoom" = some (some (.ref C_NoRoom)))
    (xa_NoRow : PySem.W.nsIn K mainGlobals "NoRow" = some (some (.ref C_NoRow)))
    (xa_NoName : PySem.W.nsIn K mainGlobals "NoName" = some (some (.ref C_NoName)))
    (xa_NoText : PySem.W.nsIn K mainGlobals "NoText" = some (some (.ref C_NoText)))
    (xhg_NoRoom : PySem.W.findIn K (.ref C_NoRoom) "__getattribute__" = some (some (.builtin "BaseException.__getattribute__")))
    (xhk_NoRoom : PySem.W.findIn K (.ref C_NoRoom) "__getattr__" = some none)
    (xhd_NoRoom : PySem.W.hasDictIn K C_NoRoom = true)
    (xha_NoRoom : PySem.W.findIn K (.ref C_NoRoom) "__class__" = some (some (.builtin "object.__class__")))
    (xhn_NoRoom : PySem.W.specialIn K (.builtin "object.__class__") "__get__" = some (some (.builtin "getset_descriptor.__get__")))
    (xht_NoRoom : PySem.W.takesIn K (.builtin "object.__class__") = some true)
    (xhm_NoRoom : PySem.W.mroIn K C_NoRoom (.type "object") = some true)
    (xx_NoRoom : PySem.W.excIn K C_NoRoom [.type "ValueError", .type "Exception", .type "BaseException", .type "object"] "ValueError.__new__" = true)
    (xk_NoRoom : PySem.W.keepIn K (.ref C_NoRoom) = true)
    (xb_NoRoom : PySem.W.subIn K (.ref C_NoRoom) (.type "BaseException") = some true)
    (xt_NoRoom : PySem.W.typeIn K (.ref C_NoRoom) = some (.type "type"))
    (xhg_NoText : PySem.W.findIn K (.ref C_NoText) "__getattribute__" = some (some (.builtin "BaseException.__getattribute__")))
    (xhk_NoText : PySem.W.findIn K (.ref C_NoText) "__getattr__" = some none)
    (xhd_NoText : PySem.W.hasDictIn K C_NoText = true)
    (xha_NoText : PySem.W.findIn K (.ref C_NoText) "__class__" = some (some (.builtin "object.__class__")))
    (xhn_NoText : PySem.W.specialIn K (.builtin "object.__class__") "__get__" = some (some (.builtin "getset_descriptor.__get__")))
    (xht_NoText : PySem.W.takesIn K (.builtin "object.__class__") = some true)
    (xhm_NoText : PySem.W.mroIn K C_NoText (.type "object") = some true)
    (xx_NoText : PySem.W.excIn K C_NoText [.type "ValueError", .type "Exception", .type "BaseException", .type "object"] "ValueError.__new__" = true)
    (xk_NoText : PySem.W.keepIn K (.ref C_NoText) = true)
    (xb_NoText : PySem.W.subIn K (.ref C_NoText) (.type "BaseException") = some true)
    (xt_NoText : PySem.W.typeIn K (.ref C_NoText) = some (.type "type"))
    (xhg_NoOrder : PySem.W.findIn K (.ref C_NoOrder) "__getattribute__" = some (some (.builtin "BaseException.__getattribute__")))
    (xhk_NoOrder : PySem.W.findIn K (.ref C_NoOrder) "__getattr__" = some none)
    (xhd_NoOrder : PySem.W.hasDictIn K C_NoOrder = true)
    (xha_NoOrder : PySem.W.findIn K (.ref C_NoOrder) "__class__" = some (some (.builtin "object.__class__")))
    (xhn_NoOrder : PySem.W.specialIn K (.builtin "object.__class__") "__get__" = some (some (.builtin "getset_descriptor.__get__")))
    (xht_NoOrder : PySem.W.takesIn K (.builtin "object.__class__") = some true)
    (xhm_NoOrder : PySem.W.mroIn K C_NoOrder (.type "object") = some true)
    (xx_NoOrder : PySem.W.excIn K C_NoOrder [.type "ValueError", .type "Exception", .type "BaseException", .type "object"] "ValueError.__new__" = true)
    (xk_NoOrder : PySem.W.keepIn K (.ref C_NoOrder) = true)
    (xb_NoOrder : PySem.W.subIn K (.ref C_NoOrder) (.type "BaseException") = some true)
    (xt_NoOrder : PySem.W.typeIn K (.ref C_NoOrder) = some (.type "type"))
    (xhg_NoName : PySem.W.findIn K (.ref C_NoName) "__getattribute__" = some (some (.builtin "BaseException.__getattribute__")))
    (xhk_NoName : PySem.W.findIn K (.ref C_NoName) "__getattr__" = some none)
    (xhd_NoName : PySem.W.hasDictIn K C_NoName = true)
    (xha_NoName : PySem.W.findIn K (.ref C_NoName) "__class__" = some (some (.builtin "object.__class__")))
    (xhn_NoName : PySem.W.specialIn K (.builtin "object.__class__") "__get__" = some (some (.builtin "getset_descriptor.__get__")))
    (xht_NoName : PySem.W.takesIn K (.builtin "object.__class__") = some true)
    (xhm_NoName : PySem.W.mroIn K C_NoName (.type "object") = some true)
    (xx_NoName : PySem.W.excIn K C_NoName [.type "ValueError", .type "Exception", .type "BaseException", .type "object"] "ValueError.__new__" = true)
    (xk_NoName : PySem.W.keepIn K (.ref C_NoName) = true)
    (xb_NoName : PySem.W.subIn K (.ref C_NoName) (.type "BaseException") = some true)
    (xt_NoName : PySem.W.typeIn K (.ref C_NoName) = some (.type "type"))
    (xhg_NoRow : PySem.W.findIn K (.ref C_NoRow) "__getattribute__" = some (some (.builtin "BaseException.__getattribute__")))
    (xhk_NoRow : PySem.W.findIn K (.ref C_NoRow) "__getattr__" = some none)
    (xhd_NoRow : PySem.W.hasDictIn K C_NoRow = true)
    (xha_NoRow : PySem.W.findIn K (.ref C_NoRow) "__class__" = some (some (.builtin "object.__class__")))
    (xhn_NoRow : PySem.W.specialIn K (.builtin "object.__class__") "__get__" = some (some (.builtin "getset_descriptor.__get__")))
    (xht_NoRow : PySem.W.takesIn K (.builtin "object.__class__") = some true)
    (xhm_NoRow : PySem.W.mroIn K C_NoRow (.type "object") = some true)
    (xx_NoRow : PySem.W.excIn K C_NoRow [.type "ValueError", .type "Exception", .type "BaseException", .type "object"] "ValueError.__new__" = true)
    (xk_NoRow : PySem.W.keepIn K (.ref C_NoRow) = true)
    (xb_NoRow : PySem.W.subIn K (.ref C_NoRow) (.type "BaseException") = some true)
    (xt_NoRow : PySem.W.typeIn K (.ref C_NoRow) = some (.type "type"))
    (xhd_BookError : PySem.W.hasDictIn K C_BookError = true)
    (xb_BookError : PySem.W.subIn K (.ref C_BookError) (.type "BaseException") = some true)
    (xt_BookError : PySem.W.typeIn K (.ref C_BookError) = some (.type "type"))
    (xs_NoRoom_NoRoom : PySem.W.subIn K (.ref C_NoRoom) (.ref C_NoRoom) = some true)
    (xs_NoRoom_NoRow : PySem.W.subIn K (.ref C_NoRoom) (.ref C_NoRow) = some false)
    (xs_NoRoom_NoName : PySem.W.subIn K (.ref C_NoRoom) (.ref C_NoName) = some false)
    (xs_NoRoom_NoText : PySem.W.subIn K (.ref C_NoRoom) (.ref C_NoText) = some false)
    (xs_NoRoom_NoOrder : PySem.W.subIn K (.ref C_NoRoom) (.ref C_NoOrder) = some false)
    (xs_NoRoom_ValueError : PySem.W.subIn K (.ref C_NoRoom) (.type "ValueError") = some true)
    (xs_NoRoom_BookError : PySem.W.subIn K (.ref C_NoRoom) (.ref C_BookError) = some true)
    (xs_NoText_NoText : PySem.W.subIn K (.ref C_NoText) (.ref C_NoText) = some true)
    (xs_NoText_NoRow : PySem.W.subIn K (.ref C_NoText) (.ref C_NoRow) = some false)
    (xs_NoText_NoName : PySem.W.subIn K (.ref C_NoText) (.ref C_NoName) = some false)
    (xs_NoText_NoRoom : PySem.W.subIn K (.ref C_NoText) (.ref C_NoRoom) = some false)
    (xs_NoText_NoOrder : PySem.W.subIn K (.ref C_NoText) (.ref C_NoOrder) = some false)
    (xs_NoText_ValueError : PySem.W.subIn K (.ref C_NoText) (.type "ValueError") = some true)
    (xs_NoText_BookError : PySem.W.subIn K (.ref C_NoText) (.ref C_BookError) = some true)
    (xs_NoOrder_NoOrder : PySem.W.subIn K (.ref C_NoOrder) (.ref C_NoOrder) = some true)
    (xs_NoOrder_NoRow : PySem.W.subIn K (.ref C_NoOrder) (.ref C_NoRow) = some false)
    (xs_NoOrder_NoName : PySem.W.subIn K (.ref C_NoOrder) (.ref C_NoName) = some false)
    (xs_NoOrder_NoText : PySem.W.subIn K (.ref C_NoOrder) (.ref C_NoText) = some false)
    (xs_NoOrder_NoRoom : PySem.W.subIn K (.ref C_NoOrder) (.ref C_NoRoom) = some false)
    (xs_NoOrder_ValueError : PySem.W.subIn K (.ref C_NoOrder) (.type "ValueError") = some true)
    (xs_NoOrder_BookError : PySem.W.subIn K (.ref C_NoOrder) (.ref C_BookError) = some true)
    (xs_NoName_NoName : PySem.W.subIn K (.ref C_NoName) (.ref C_NoName) = some true)
    (xs_NoName_NoRow : PySem.W.subIn K (.ref C_NoName) (.ref C_NoRow) = some false)
    (xs_NoName_NoText : PySem.W.subIn K (.ref C_NoName) (.ref C_NoText) = some false)
    (xs_NoName_NoRoom : PySem.W.subIn K (.ref C_NoName) (.ref C_NoRoom) = some false)
    (xs_NoName_NoOrder : PySem.W.subIn K (.ref C_NoName) (.ref C_NoOrder) = some false)
    (xs_NoName_ValueError : PySem.W.subIn K (.ref C_NoName) (.type "ValueError") = some true)
    (xs_NoName_BookError : PySem.W.subIn K (.ref C_NoName) (.ref C_BookError) = some true)
    (xs_NoRow_NoRow : PySem.W.subIn K (.ref C_NoRow) (.ref C_NoRow) = some true)
    (xs_NoRow_NoName : PySem.W.subIn K (.ref C_NoRow) (.ref C_NoName) = some false)
    (xs_NoRow_NoText : PySem.W.subIn K (.ref C_NoRow) (.ref C_NoText) = some false)
    (xs_NoRow_NoRoom : PySem.W.subIn K (.ref C_NoRow) (.ref C_NoRoom) = some false)
    (xs_NoRow_NoOrder : PySem.W.subIn K (.ref C_NoRow) (.ref C_NoOrder) = some false)
    (xs_NoRow_ValueError : PySem.W.subIn K (.ref C_NoRow) (.type "ValueError") = some true)
    (xs_NoRow_BookError : PySem.W.subIn K (.ref C_NoRow) (.ref C_BookError) = some true)
    : ∃ fd : FuncData, (∀ (s : Shared) (v : Value), BindsTo s fd ⟨[v], []⟩ [("_law_script", v)]) ∧ ∀ base : Heap, K.In base → base.Ns mainGlobals mg → FnOk P w K mg base CX0 10 fa fd ["_law_script"] (spF K R_law) := by
  have e := hfa.symm.trans (PySem.W.mg_of X G a56)
  cases e
  have T : Tb mg := ⟨PySem.W.mg_none_of X G z_list, PySem.W.mg_none_of X G z_range, PySem.W.mg_none_of X G z_len, PySem.W.mg_none_of X G z_max, PySem.W.mg_none_of X G z_min, PySem.W.mg_none_of X G z_int, PySem.W.mg_none_of X G z_str, PySem.W.mg_none_of X G z_isinstance, PySem.W.mg_none_of X G z_ValueError, ⟨_, PySem.W.mg_of X G zs_FIGURES, _, rfl⟩, ⟨_, PySem.W.mg_of X G zs_LETTERS, _, rfl⟩, ⟨_, PySem.W.mg_of X G zs_MOST, _, rfl⟩⟩
  have EX_ : EX K mg C_BookError C_NoOrder C_NoRoom C_NoRow C_NoName C_NoText := ⟨PySem.W.mg_of X G xa_BookError, PySem.W.mg_of X G xa_NoOrder, PySem.W.mg_of X G xa_NoRoom, PySem.W.mg_of X G xa_NoRow, PySem.W.mg_of X G xa_NoName, PySem.W.mg_of X G xa_NoText, ⟨PySem.W.mg_of X G xa_NoRoom, xx_NoRoom, xk_NoRoom, xb_NoRoom, xt_NoRoom, ⟨xhg_NoRoom, xhk_NoRoom, xb_NoRoom, xhd_NoRoom, xha_NoRoom, xhn_NoRoom, xht_NoRoom, xhm_NoRoom⟩⟩, PySem.W.exm_ref xb_BookError xhd_BookError xt_BookError xs_NoRoom_BookError, DL.kit_ref xs_NoRoom_NoRoom xhd_NoRow xt_NoRow xs_NoRoom_NoRow, DL.kit_ref xs_NoRoom_NoRoom xhd_NoName xt_NoName xs_NoRoom_NoName, DL.kit_ref xs_NoRoom_NoRoom xhd_NoText xt_NoText xs_NoRoom_NoText, DL.kit_ref xs_NoRoom_NoRoom xhd_NoRoom xt_NoRoom xs_NoRoom_NoRoom, DL.kit_ref xs_NoRoom_NoRoom xhd_NoOrder xt_NoOrder xs_NoRoom_NoOrder, DL.kit_ve xs_NoRoom_ValueError, ⟨PySem.W.mg_of X G xa_NoText, xx_NoText, xk_NoText, xb_NoText, xt_NoText, ⟨xhg_NoText, xhk_NoText, xb_NoText, xhd_NoText, xha_NoText, xhn_NoText, xht_NoText, xhm_NoText⟩⟩, PySem.W.exm_ref xb_BookError xhd_BookError xt_BookError xs_NoText_BookError, DL.kit_ref xs_NoText_NoText xhd_NoRow xt_NoRow xs_NoText_NoRow, DL.kit_ref xs_NoText_NoText xhd_NoName xt_NoName xs_NoText_NoName, DL.kit_ref xs_NoText_NoText xhd_NoText xt_NoText xs_NoText_NoText, DL.kit_ref xs_NoText_NoText xhd_NoRoom xt_NoRoom xs_NoText_NoRoom, DL.kit_ref xs_NoText_NoText xhd_NoOrder xt_NoOrder xs_NoText_NoOrder, DL.kit_ve xs_NoText_ValueError, ⟨PySem.W.mg_of X G xa_NoOrder, xx_NoOrder, xk_NoOrder, xb_NoOrder, xt_NoOrder, ⟨xhg_NoOrder, xhk_NoOrder, xb_NoOrder, xhd_NoOrder, xha_NoOrder, xhn_NoOrder, xht_NoOrder, xhm_NoOrder⟩⟩, PySem.W.exm_ref xb_BookError xhd_BookError xt_BookError xs_NoOrder_BookError, DL.kit_ref xs_NoOrder_NoOrder xhd_NoRow xt_NoRow xs_NoOrder_NoRow, DL.kit_ref xs_NoOrder_NoOrder xhd_NoName xt_NoName xs_NoOrder_NoName, DL.kit_ref xs_NoOrder_NoOrder xhd_NoText xt_NoText xs_NoOrder_NoText, DL.kit_ref xs_NoOrder_NoOrder xhd_NoRoom xt_NoRoom xs_NoOrder_NoRoom, DL.kit_ref xs_NoOrder_NoOrder xhd_NoOrder xt_NoOrder xs_NoOrder_NoOrder, DL.kit_ve xs_NoOrder_ValueError, ⟨PySem.W.mg_of X G xa_NoName, xx_NoName, xk_NoName, xb_NoName, xt_NoName, ⟨xhg_NoName, xhk_NoName, xb_NoName, xhd_NoName, xha_NoName, xhn_NoName, xht_NoName, xhm_NoName⟩⟩, PySem.W.exm_ref xb_BookError xhd_BookError xt_BookError xs_NoName_BookError, DL.kit_ref xs_NoName_NoName xhd_NoRow xt_NoRow xs_NoName_NoRow, DL.kit_ref xs_NoName_NoName xhd_NoName xt_NoName xs_NoName_NoName, DL.kit_ref xs_NoName_NoName xhd_NoText xt_NoText xs_NoName_NoText, DL.kit_ref xs_NoName_NoName xhd_NoRoom xt_NoRoom xs_NoName_NoRoom, DL.kit_ref xs_NoName_NoName xhd_NoOrder xt_NoOrder xs_NoName_NoOrder, DL.kit_ve xs_NoName_ValueError, ⟨PySem.W.mg_of X G xa_NoRow, xx_NoRow, xk_NoRow, xb_NoRow, xt_NoRow, ⟨xhg_NoRow, xhk_NoRow, xb_NoRow, xhd_NoRow, xha_NoRow, xhn_NoRow, xht_NoRow, xhm_NoRow⟩⟩, PySem.W.exm_ref xb_BookError xhd_BookError xt_BookError xs_NoRow_BookError, DL.kit_ref xs_NoRow_NoRow xhd_NoRow xt_NoRow xs_NoRow_NoRow, DL.kit_ref xs_NoRow_NoRow xhd_NoName xt_NoName xs_NoRow_NoName, DL.kit_ref xs_NoRow_NoRow xhd_NoText xt_NoText xs_NoRow_NoText, DL.kit_ref xs_NoRow_NoRow xhd_NoRoom xt_NoRoom xs_NoRow_NoRoom, DL.kit_ref xs_NoRow_NoRow xhd_NoOrder xt_NoOrder xs_NoRow_NoOrder, DL.kit_ve xs_NoRow_ValueError⟩
  have CB : DL.BkC K C_Book := ⟨⟨pg_Book, hd_Book, po_Book, sa_Book⟩, nn_Book, nw_Book, np_Book⟩
  have F0 := fun_mk (st := s_waits) l0 c0 k0
  have D0 : Dfn K mg "waits" s_waits ["needs", "work", "left"] := ⟨f0, _, F0, PySem.W.mg_of X G a0, F0.binds fun _ _ _ _ _ _ us hl => match us, hl with | [_, _, _], _ => rfl⟩
  have F1 := fun_mk (st := s_order_of) l1 c1 k1
  have D1 : Dfn K mg "order_of" s_order_of ["many", "needs"] := ⟨f1, _, F1, PySem.W.mg_of X G a1, F1.binds fun _ _ _ _ _ _ us hl => match us, hl with | [_, _], _ => rfl⟩
  have F2 := fun_mk (st := s_earliest) l2 c2 k2
  have D2 : Dfn K mg "earliest" s_earliest ["hours", "needs"] := ⟨f2, _, F2, PySem.W.mg_of X G a2, F2.binds fun _ _ _ _ _ _ us hl => match us, hl with | [_, _], _ => rfl⟩
  have F3 := fun_mk (st := s_length) l3 c3 k3
  have D3 : Dfn K mg "length" s_length ["hours", "needs"] := ⟨f3, _, F3, PySem.W.mg_of X G a3, F3.binds fun _ _ _ _ _ _ us hl => match us, hl with | [_, _], _ => rfl⟩
  have F4 := fun_mk (st := s_latest) l4 c4 k4
  have D4 : Dfn K mg "latest" s_latest ["hours", "needs", "end"] := ⟨f4, _, F4, PySem.W.mg_of X G a4, F4.binds fun _ _ _ _ _ _ us hl => match us, hl with | [_, _, _], _ => rfl⟩
  have F5 := fun_mk (st := s_spare) l5 c5 k5
  have D5 : Dfn K mg "spare" s_spare ["hours", "needs", "end"] := ⟨f5, _, F5, PySem.W.mg_of X G a5, F5.binds fun _ _ _ _ _ _ us hl => match us, hl with | [_, _, _], _ => rfl⟩
  have F6 := fun_mk (st := s_longest) l6 c6 k6
  have D6 : Dfn K mg "longest" s_longest ["hours", "needs"] := ⟨f6, _, F6, PySem.W.mg_of X G a6, F6.binds fun _ _ _ _ _ _ us hl => match us, hl with | [_, _], _ => rfl⟩
  have F7 := fun_mk (st := s_arcs_of) l7 c7 k7
  have D7 : Dfn K mg "arcs_of" s_arcs_of ["works", "needs"] := ⟨f7, _, F7, PySem.W.mg_of X G a7, F7.binds fun _ _ _ _ _ _ us hl => match us, hl with | [_, _], _ => rfl⟩
  have F8 := fun_mk (st := s_steps_of) l8 c8 k8
  have D8 : Dfn K mg "steps_of" s_steps_of ["arcs", "flow"] := ⟨f8, _, F8, PySem.W.mg_of X G a8, F8.binds fun _ _ _ _ _ _ us hl => match us, hl with | [_, _], _ => rfl⟩
  have F9 := fun_mk (st := s_farthest) l9 c9 k9
  have D9 : Dfn K mg "farthest" s_farthest ["many", "steps"] := ⟨f9, _, F9, PySem.W.mg_of X G a9, F9.binds fun _ _ _ _ _ _ us hl => match us, hl with | [_, _], _ => rfl⟩
  have F10 := fun_mk (st := s_way_to) l10 c10 k10
  have D10 : Dfn K mg "way_to" s_way_to ["came"] := ⟨f10, _, F10, PySem.W.mg_of X G a10, F10.binds fun _ _ _ _ _ _ us hl => match us, hl with | [_], _ => rfl⟩
  have F11 := fun_mk (st := s_room_on) l11 c11 k11
  have D11 : Dfn K mg "room_on" s_room_on ["arcs", "flow", "way"] := ⟨f11, _, F11, PySem.W.mg_of X G a11, F11.binds fun _ _ _ _ _ _ us hl => match us, hl with | [_, _, _], _ => rfl⟩
  have F12 := fun_mk (st := s_sent) l12 c12 k12
  have D12 : Dfn K mg "sent" s_sent ["flow", "way", "amount"] := ⟨f12, _, F12, PySem.W.mg_of X G a12, F12.binds fun _ _ _ _ _ _ us hl => match us, hl with | [_, _, _], _ => rfl⟩
  have F13 := fun_mk (st := s_levels) l13 c13 k13
  have D13 : Dfn K mg "levels" s_levels ["works", "needs"] := ⟨f13, _, F13, PySem.W.mg_of X G a13, F13.binds fun _ _ _ _ _ _ us hl => match us, hl with | [_, _], _ => rfl⟩
  have F14 := fun_mk (st := s_least_end) l14 c14 k14
  have D14 : Dfn K mg "least_end" s_least_end ["works", "needs"] := ⟨f14, _, F14, PySem.W.mg_of X G a14, F14.binds fun _ _ _ _ _ _ us hl => match us, hl with | [_, _], _ => rfl⟩
  have F15 := fun_mk (st := s_free_end) l15 c15 k15
  have D15 : Dfn K mg "free_end" s_free_end ["works", "needs"] := ⟨f15, _, F15, PySem.W.mg_of X G a15, F15.binds fun _ _ _ _ _ _ us hl => match us, hl with | [_, _], _ => rfl⟩
  have F16 := fun_mk (st := s_plan_by) l16 c16 k16
  have D16 : Dfn K mg "plan_by" s_plan_by ["works", "far"] := ⟨f16, _, F16, PySem.W.mg_of X G a16, F16.binds fun _ _ _ _ _ _ us hl => match us, hl with | [_, _], _ => rfl⟩
  have F17 := fun_mk (st := s_plan_at) l17 c17 k17
  have D17 : Dfn K mg "plan_at" s_plan_at ["works", "needs", "end"] := ⟨f17, _, F17, PySem.W.mg_of X G a17, F17.binds fun _ _ _ _ _ _ us hl => match us, hl with | [_, _, _], _ => rfl⟩
  have F18 := fun_mk (st := s_ways_of) l18 c18 k18
  have D18 : Dfn K mg "ways_of" s_ways_of ["works", "arcs", "flow"] := ⟨f18, _, F18, PySem.W.mg_of X G a18, F18.binds fun _ _ _ _ _ _ us hl => match us, hl with | [_, _, _], _ => rfl⟩
  have F19 := fun_mk (st := s_stream_at) l19 c19 k19
  have D19 : Dfn K mg "stream_at" s_stream_at ["works", "needs", "end"] := ⟨f19, _, F19, PySem.W.mg_of X G a19, F19.binds fun _ _ _ _ _ _ us hl => match us, hl with | [_, _, _], _ => rfl⟩
  have F20 := fun_mk (st := s_too_long) l20 c20 k20
  have D20 : Dfn K mg "too_long" s_too_long ["works", "needs", "end"] := ⟨f20, _, F20, PySem.W.mg_of X G a20, F20.binds fun _ _ _ _ _ _ us hl => match us, hl with | [_, _, _], _ => rfl⟩
  have F21 := fun_mk (st := s_price_of) l21 c21 k21
  have D21 : Dfn K mg "price_of" s_price_of ["works", "plan"] := ⟨f21, _, F21, PySem.W.mg_of X G a21, F21.binds fun _ _ _ _ _ _ us hl => match us, hl with | [_, _], _ => rfl⟩
  have F22 := fun_mk (st := s_corners) l22 c22 k22
  have D22 : Dfn K mg "corners" s_corners ["works", "needs"] := ⟨f22, _, F22, PySem.W.mg_of X G a22, F22.binds fun _ _ _ _ _ _ us hl => match us, hl with | [_, _], _ => rfl⟩
  have F23 := fun_mk (st := s_steps_between) l23 c23 k23
  have D23 : Dfn K mg "steps_between" s_steps_between ["found"] := ⟨f23, _, F23, PySem.W.mg_of X G a23, F23.binds fun _ _ _ _ _ _ us hl => match us, hl with | [_], _ => rfl⟩
  have F24 := fun_mk (st := s_price_at) l24 c24 k24
  have D24 : Dfn K mg "price_at" s_price_at ["works", "needs", "end"] := ⟨f24, _, F24, PySem.W.mg_of X G a24, F24.binds fun _ _ _ _ _ _ us hl => match us, hl with | [_, _, _], _ => rfl⟩
  have F25 := fun_mk (st := s_all_in) l25 c25 k25
  have D25 : Dfn K mg "all_in" s_all_in ["text", "signs", "most"] := ⟨f25, _, F25, PySem.W.mg_of X G a25, F25.binds fun _ _ _ _ _ _ us hl => match us, hl with | [_, _, _], _ => rfl⟩
  have F26 := fun_mk (st := s_is_name) l26 c26 k26
  have D26 : Dfn K mg "is_name" s_is_name ["text"] := ⟨f26, _, F26, PySem.W.mg_of X G a26, F26.binds fun _ _ _ _ _ _ us hl => match us, hl with | [_], _ => rfl⟩
  have F27 := fun_mk (st := s_read_count) l27 c27 k27
  have D27 : Dfn K mg "read_count" s_read_count ["text"] := ⟨f27, _, F27, PySem.W.mg_of X G a27, F27.binds fun _ _ _ _ _ _ us hl => match us, hl with | [_], _ => rfl⟩
  have F28 := fun_mk (st := s_end_for) l28 c28 k28
  have D28 : Dfn K mg "end_for" s_end_for ["works", "needs", "budget"] := ⟨f28, _, F28, PySem.W.mg_of X G a28, F28.binds fun _ _ _ _ _ _ us hl => match us, hl with | [_, _, _], _ => rfl⟩
  have F29 := fun_mk (st := s_best_end) l29 c29 k29
  have D29 : Dfn K mg "best_end" s_best_end ["works", "needs", "bonus"] := ⟨f29, _, F29, PySem.W.mg_of X G a29, F29.binds fun _ _ _ _ _ _ us hl => match us, hl with | [_, _, _], _ => rfl⟩
  have F30 := fun_mk (st := s_best_sum) l30 c30 k30
  have D30 : Dfn K mg "best_sum" s_best_sum ["works", "needs", "bonus"] := ⟨f30, _, F30, PySem.W.mg_of X G a30, F30.binds fun _ _ _ _ _ _ us hl => match us, hl with | [_, _, _], _ => rfl⟩
  have F31 := fun_mk (st := s_is_said) l31 c31 k31
  have D31 : Dfn K mg "is_said" s_is_said ["words"] := ⟨f31, _, F31, PySem.W.mg_of X G a31, F31.binds fun _ _ _ _ _ _ us hl => match us, hl with | [_], _ => rfl⟩
  have F32 := fun_mk (st := s_shown) l32 c32 k32
  have D32 : Dfn K mg "shown" s_shown ["numbers"] := ⟨f32, _, F32, PySem.W.mg_of X G a32, F32.binds fun _ _ _ _ _ _ us hl => match us, hl with | [_], _ => rfl⟩
  have F33 := fun_mk (st := s_Book___init__) l33 c33 k33
  have b33 := F33.binds (ps := ["self"]) fun _ _ _ _ _ _ us hl => match us, hl with | [_], _ => rfl
  have F34 := fun_mk (st := s_Book_listed) l34 c34 k34
  have b34 := F34.binds (ps := ["self"]) fun _ _ _ _ _ _ us hl => match us, hl with | [_], _ => rfl
  have D34 : DL.DfnM K C_Book "listed" "Book.listed" s_Book_listed ["self"] := ⟨f34, _, F34, CB.cl, ⟨a34, i34, k34⟩, b34⟩
  have F35 := fun_mk (st := s_Book_needs) l35 c35 k35
  have b35 := F35.binds (ps := ["self"]) fun _ _ _ _ _ _ us hl => match us, hl with | [_], _ => rfl
  have D35 : DL.DfnM K C_Book "needs" "Book.needs" s_Book_needs ["self"] := ⟨f35, _, F35, CB.cl, ⟨a35, i35, k35⟩, b35⟩
  have F36 := fun_mk (st := s_Book_standing) l36 c36 k36
  have b36 := F36.binds (ps := ["self", "name"]) fun _ _ _ _ _ _ us hl => match us, hl with | [_, _], _ => rfl
  have D36 : DL.DfnM K C_Book "standing" "Book.standing" s_Book_standing ["self", "name"] := ⟨f36, _, F36, CB.cl, ⟨a36, i36, k36⟩, b36⟩
  have F37 := fun_mk (st := s_Book_put_work) l37 c37 k37
  have b37 := F37.binds (ps := ["self", "words"]) fun _ _ _ _ _ _ us hl => match us, hl with | [_, _], _ => rfl
  have D37 : DL.DfnM K C_Book "put_work" "Book.put_work" s_Book_put_work ["self", "words"] := ⟨f37, _, F37, CB.cl, ⟨a37, i37, k37⟩, b37⟩
  have F38 := fun_mk (st := s_Book_put_need) l38 c38 k38
  have b38 := F38.binds (ps := ["self", "one", "other"]) fun _ _ _ _ _ _ us hl => match us, hl with | [_, _, _], _ => rfl
  have D38 : DL.DfnM K C_Book "put_need" "Book.put_need" s_Book_put_need ["self", "one", "other"] := ⟨f38, _, F38, CB.cl, ⟨a38, i38, k38⟩, b38⟩
  have F39 := fun_mk (st := s_Book_free_need) l39 c39 k39
  have b39 := F39.binds (ps := ["self", "one", "other"]) fun _ _ _ _ _ _ us hl => match us, hl with | [_, _, _], _ => rfl
  have D39 : DL.DfnM K C_Book "free_need" "Book.free_need" s_Book_free_need ["self", "one", "other"] := ⟨f39, _, F39, CB.cl, ⟨a39, i39, k39⟩, b39⟩
  have F40 := fun_mk (st := s_Book_drop) l40 c40 k40
  have b40 := F40.binds (ps := ["self", "name"]) fun _ _ _ _ _ _ us hl => match us, hl with | [_, _], _ => rfl
  have D40 : DL.DfnM K C_Book "drop" "Book.drop" s_Book_drop ["self", "name"] := ⟨f40, _, F40, CB.cl, ⟨a40, i40, k40⟩, b40⟩
  have F41 := fun_mk (st := s_Book_change) l41 c41 k41
  have b41 := F41.binds (ps := ["self", "words"]) fun _ _ _ _ _ _ us hl => match us, hl with | [_, _], _ => rfl
  have D41 : DL.DfnM K C_Book "change" "Book.change" s_Book_change ["self", "words"] := ⟨f41, _, F41, CB.cl, ⟨a41, i41, k41⟩, b41⟩
  have F42 := fun_mk (st := s_Book_show) l42 c42 k42
  have b42 := F42.binds (ps := ["self", "name"]) fun _ _ _ _ _ _ us hl => match us, hl with | [_, _], _ => rfl
  have D42 : DL.DfnM K C_Book "show" "Book.show" s_Book_show ["self", "name"] := ⟨f42, _, F42, CB.cl, ⟨a42, i42, k42⟩, b42⟩
  have F43 := fun_mk (st := s_Book_told_plan) l43 c43 k43
  have b43 := F43.binds (ps := ["self", "end"]) fun _ _ _ _ _ _ us hl => match us, hl with | [_, _], _ => rfl
  have D43 : DL.DfnM K C_Book "told_plan" "Book.told_plan" s_Book_told_plan ["self", "end"] := ⟨f43, _, F43, CB.cl, ⟨a43, i43, k43⟩, b43⟩
  have F44 := fun_mk (st := s_Book_told_why) l44 c44 k44
  have b44 := F44.binds (ps := ["self", "end"]) fun _ _ _ _ _ _ us hl => match us, hl with | [_, _], _ => rfl
  have D44 : DL.DfnM K C_Book "told_why" "Book.told_why" s_Book_told_why ["self", "end"] := ⟨f44, _, F44, CB.cl, ⟨a44, i44, k44⟩, b44⟩
  have F45 := fun_mk (st := s_Book_told_spare) l45 c45 k45
  have b45 := F45.binds (ps := ["self", "end"]) fun _ _ _ _ _ _ us hl => match us, hl with | [_, _], _ => rfl
  have D45 : DL.DfnM K C_Book "told_spare" "Book.told_spare" s_Book_told_spare ["self", "end"] := ⟨f45, _, F45, CB.cl, ⟨a45, i45, k45⟩, b45⟩
  have F46 := fun_mk (st := s_Book_told_whole) l46 c46 k46
  have b46 := F46.binds (ps := ["self", "word"]) fun _ _ _ _ _ _ us hl => match us, hl with | [_, _], _ => rfl
  have D46 : DL.DfnM K C_Book "told_whole" "Book.told_whole" s_Book_told_whole ["self", "word"] := ⟨f46, _, F46, CB.cl, ⟨a46, i46, k46⟩, b46⟩
  have F47 := fun_mk (st := s_Book_say) l47 c47 k47
  have b47 := F47.binds (ps := ["self", "row"]) fun _ _ _ _ _ _ us hl => match us, hl with | [_, _], _ => rfl
  have D47 : DL.DfnM K C_Book "say" "Book.say" s_Book_say ["self", "row"] := ⟨f47, _, F47, CB.cl, ⟨a47, i47, k47⟩, b47⟩
  have F48 := fun_mk (st := s__law_mix) l48 c48 k48
  have D48 : Dfn K mg "_law_mix" s__law_mix ["_law_number", "_law_k"] := ⟨f48, _, F48, PySem.W.mg_of X G a48, F48.binds fun _ _ _ _ _ _ us hl => match us, hl with | [_, _], _ => rfl⟩
  have F49 := fun_mk (st := s__law_cell_at) l49 c49 k49
  have D49 : Dfn K mg "_law_cell_at" s__law_cell_at ["_law_script", "_law_k"] := ⟨f49, _, F49, PySem.W.mg_of X G a49, F49.binds fun _ _ _ _ _ _ us hl => match us, hl with | [_, _], _ => rfl⟩
  have F50 := fun_mk (st := s__law_names) l50 c50 k50
  have D50 : Dfn K mg "_law_names" s__law_names ["_law_cell"] := ⟨f50, _, F50, PySem.W.mg_of X G a50, F50.binds fun _ _ _ _ _ _ us hl => match us, hl with | [_], _ => rfl⟩
  have F51 := fun_mk (st := s__law_no_name) l51 c51 k51
  have D51 : Dfn K mg "_law_no_name" s__law_no_name ["_law_name", "_law_cell"] := ⟨f51, _, F51, PySem.W.mg_of X G a51, F51.binds fun _ _ _ _ _ _ us hl => match us, hl with | [_, _], _ => rfl⟩
  have F52 := fun_mk (st := s__law_of_words) l52 c52 k52
  have D52 : Dfn K mg "_law_of_words" s__law_of_words ["_law_a", "_law_u"] := ⟨f52, _, F52, PySem.W.mg_of X G a52, F52.binds fun _ _ _ _ _ _ us hl => match us, hl with | [_, _], _ => rfl⟩
  have F53 := fun_mk (st := s__law_of_names) l53 c53 k53
  have D53 : Dfn K mg "_law_of_names" s__law_of_names ["_law_a", "_law_u", "_law_m"] := ⟨f53, _, F53, PySem.W.mg_of X G a53, F53.binds fun _ _ _ _ _ _ us hl => match us, hl with | [_, _, _], _ => rfl⟩
  have F54 := fun_mk (st := s__law_of_texts) l54 c54 k54
  have D54 : Dfn K mg "_law_of_texts" s__law_of_texts ["_law_a", "_law_b", "_law_c", "_law_u"] := ⟨f54, _, F54, PySem.W.mg_of X G a54, F54.binds fun _ _ _ _ _ _ us hl => match us, hl with | [_, _, _, _], _ => rfl⟩
  have F55 := fun_mk (st := s__law_refused) l55 c55 k55
  have D55 : Dfn K mg "_law_refused" s__law_refused ["_law_book", "_law_row"] := ⟨f55, _, F55, PySem.W.mg_of X G a55, F55.binds fun _ _ _ _ _ _ us hl => match us, hl with | [_, _], _ => rfl⟩
  have F56 := fun_mk (st := s_law) l56 c56 k56
  refine ⟨PySem.W.fnOf "law" "law" (defArgs s_law) (defBody s_law) (defScope s_law) .none kV56 dc56 pm56 an56 cd56 ct56, fun s v => .of_eq rfl, fun base KB GB => ?_⟩
  have C0 := ok_waits (P := P) (w := w) (base := base) D0 T EX_ CB 
  have C1 := ok_order_of (P := P) (w := w) (base := base) D1 T EX_ CB C0
  have C2 := ok_earliest (P := P) (w := w) (base := base) D2 T EX_ CB C1
  have C3 := ok_length (P := P) (w := w) (base := base) D3 T EX_ CB C2
  have C4 := ok_latest (P := P) (w := w) (base := base) D4 T EX_ CB C3 C1
  have C5 := ok_spare (P := P) (w := w) (base := base) D5 T EX_ CB C4 C2
  have C6 := ok_longest (P := P) (w := w) (base := base) D6 T EX_ CB C2 C3
  have C7 := ok_arcs_of (P := P) (w := w) (base := base) D7 T EX_ CB 
  have C8 := ok_steps_of (P := P) (w := w) (base := base) D8 T EX_ CB 
  have C9 := ok_farthest (P := P) (w := w) (base := base) D9 T EX_ CB 
  have C10 := ok_way_to (P := P) (w := w) (base := base) D10 T EX_ CB 
  have C11 := ok_room_on (P := P) (w := w) (base := base) D11 T EX_ CB 
  have C12 := ok_sent (P := P) (w := w) (base := base) D12 T EX_ CB 
  have C13 := ok_levels (P := P) (w := w) (base := base) D13 T EX_ CB C1 C7 C9 C10 C11 C8 C12
  have C14 := ok_least_end (P := P) (w := w) (base := base) D14 T EX_ CB C3
  have C15 := ok_free_end (P := P) (w := w) (base := base) D15 T EX_ CB C3
  have C16 := ok_plan_by (P := P) (w := w) (base := base) D16 T EX_ CB 
  have C17 := ok_plan_at (P := P) (w := w) (base := base) D17 T EX_ CB C13 C16
  have C18 := ok_ways_of (P := P) (w := w) (base := base) D18 T EX_ CB 
  have C19 := ok_stream_at (P := P) (w := w) (base := base) D19 T EX_ CB C13 C18 C7
  have C20 := ok_too_long (P := P) (w := w) (base := base) D20 T EX_ CB C3 C6
  have C21 := ok_price_of (P := P) (w := w) (base := base) D21 T EX_ CB 
  have C22 := ok_corners (P := P) (w := w) (base := base) D22 T EX_ CB C21 C13 C16
  have C23 := ok_steps_between (P := P) (w := w) (base := base) D23 T EX_ CB 
  have C24 := ok_price_at (P := P) (w := w) (base := base) D24 T EX_ CB C22 C23
  have C25 := ok_all_in (P := P) (w := w) (base := base) D25 T EX_ CB 
  have C26 := ok_is_name (P := P) (w := w) (base := base) D26 T EX_ CB C25
  have C27 := ok_read_count (P := P) (w := w) (base := base) D27 T EX_ CB C25
  have C28 := ok_end_for (P := P) (w := w) (base := base) D28 T EX_ CB C22 C23
  have C29 := ok_best_end (P := P) (w := w) (base := base) D29 T EX_ CB C22 C23
  have C30 := ok_best_sum (P := P) (w := w) (base := base) D30 T EX_ CB C22
  have C31 := ok_is_said (P := P) (w := w) (base := base) D31 T EX_ CB 
  have C32 := ok_shown (P := P) (w := w) (base := base) D32 T EX_ CB 
  have C33 := ok_Book___init__ (P := P) (w := w) (base := base) F33 ⟨mk_Book, a33, i33, kc_Book⟩ (PySem.W.mg_of X G ac_Book) b33 T EX_ CB
  have C34 := ok_Book_listed (P := P) (w := w) (base := base) D34 T EX_ CB 
  have C35 := ok_Book_needs (P := P) (w := w) (base := base) D35 T EX_ CB 
  have C36 := ok_Book_standing (P := P) (w := w) (base := base) D36 T EX_ CB 
  have C37 := ok_Book_put_work (P := P) (w := w) (base := base) D37 T EX_ CB C26 C27
  have C38 := ok_Book_put_need (P := P) (w := w) (base := base) D38 T EX_ CB C36 C1 C35
  have C39 := ok_Book_free_need (P := P) (w := w) (base := base) D39 T EX_ CB C36
  have C40 := ok_Book_drop (P := P) (w := w) (base := base) D40 T EX_ CB C36
  have C41 := ok_Book_change (P := P) (w := w) (base := base) D41 T EX_ CB C37 C38 C39 C40
  have C42 := ok_Book_show (P := P) (w := w) (base := base) D42 T EX_ CB C36 C32
  have C43 := ok_Book_told_plan (P := P) (w := w) (base := base) D43 T EX_ CB C17 C34 C35 C32
  have C44 := ok_Book_told_why (P := P) (w := w) (base := base) D44 T EX_ CB C19 C34 C35 C20
  have C45 := ok_Book_told_spare (P := P) (w := w) (base := base) D45 T EX_ CB C34 C3 C35 C32 C5
  have C46 := ok_Book_told_whole (P := P) (w := w) (base := base) D46 T EX_ CB C32 C14 C15 C34 C35 C22
  have C47 := ok_Book_say (P := P) (w := w) (base := base) D47 T EX_ CB C31 C41 C46 C42 C27 C43 C44 C45 C28 C34 C35 C32 C29 C30 C24
  have C48 := ok__law_mix (P := P) (w := w) (base := base) D48 T EX_ CB 
  have C49 := ok__law_cell_at (P := P) (w := w) (base := base) D49 T EX_ CB 
  have C50 := ok__law_names (P := P) (w := w) (base := base) D50 T EX_ CB C48
  have C51 := ok__law_no_name (P := P) (w := w) (base := base) D51 T EX_ CB C48
  have C52 := ok__law_of_words (P := P) (w := w) (base := base) D52 T EX_ CB 
  have C53 := ok__law_of_names (P := P) (w := w) (base := base) D53 T EX_ CB 
  have C54 := ok__law_of_texts (P := P) (w := w) (base := base) D54 T EX_ CB 
  have C55 := ok__law_refused (P := P) (w := w) (base := base) D55 T EX_ CB C47
  exact ok_law F56 T EX_ CB C33 C50 C49 C47 C48 C54 C55 C52 C53 C51
theorem walk {l : PySem.W.OpenLaw} {q : Program} {loose : List Str} {XP : (Str → Option Value) → Heap → Prop} {YP : World → Heap → Prop} {d : DefRec} {K : Params → PySem.W.Frag} (hn : l.most = some 63) (hdf : d.params.defaults = [])
    (hY : ∀ (w : World) (h : Heap), YP w h → (K w.params).In h)
    (F : ∀ (w : World) (mg : Str → Option Value) (fa : Addr) (h : Heap), (K w.params).In h → h.Ns mainGlobals mg → mg d.name = some (.ref fa) →
      ∃ fd : FuncData, (∀ (s : Shared) (u : Value), BindsTo s fd ⟨[u], []⟩ [("_law_script", u)]) ∧ ∀ base : Heap, (K w.params).In base → base.Ns mainGlobals mg → FnOk l.prog w (K w.params) mg base CX0 10 fa fd ["_law_script"] (spF (K w.params) R_law)) :
    PySem.W.WalkO q loose XP YP l.row.toRowW d [] (fun f vs => PySem.call f vs) :=
  L2.walk_ofB (n := 63) (k := 10) (x := "_law_script") (CX := fun _ => CX0) (sp := fun w => spF (K w.params) R_law) hn (by decide) hdf ⟨rfl, by decide, by decide⟩ hY F
    (fun w H a ns hl hb _ hS => DL.law_in hS (law_true ns hl hb)) fun _ _ _ _ _ z => z
end LW
open PySem PySem.W PyProof.Rows in
set_option maxRecDepth 100000 in
set_option maxHeartbeats 0 in
theorem PySem.Challenge.cw_hastebook_k63_rows_refused_holds : PySem.Challenge.rw_hastebook_k63_rows_refused.Holds := by
  w_on; o_law; k_head; (case hw => w_witness2)
  k_fill
  refine LW.walk (l := PySem.Challenge.rw_hastebook_k63_rows_refused) rfl rfl (fun w h Y => PySem.W.kIn_of Y) ?F
  case F =>
    intro w mg fa h KX G hmg
    refine' LW.all_mk KX G hmg ?ac_Book ?a0 ?l0 ?c0 ?k0 ?a1 ?l1 ?c1 ?k1 ?a2 ?l2 ?c2 ?k2 ?a3 ?l3 ?c3 ?k3 ?a4 ?l4 ?c4 ?k4 ?a5 ?l5 ?c5 ?k5 ?a6 ?l6 ?c6 ?k6 ?a7 ?l7 ?c7 ?k7 ?a8 ?l8 ?c8 ?k8 ?a9 ?l9 ?c9 ?k9 ?a10 ?l10 ?c10 ?k10 ?a11 ?l11 ?c11 ?k11 ?a12 ?l12 ?c12 ?k12 ?a13 ?l13 ?c13 ?k13 ?a14 ?l14 ?c14 ?k14 ?a15 ?l15 ?c15 ?k15 ?a16 ?l16 ?c16 ?k16 ?a17 ?l17 ?c17 ?k17 ?a18 ?l18 ?c18 ?k18 ?a19 ?l19 ?c19 ?k19 ?a20 ?l20 ?c20 ?k20 ?a21 ?l21 ?c21 ?k21 ?a22 ?l22 ?c22 ?k22 ?a23 ?l23 ?c23 ?k23 ?a24 ?l24 ?c24 ?k24 ?a25 ?l25 ?c25 ?k25 ?a26 ?l26 ?c26 ?k26 ?a27 ?l27 ?c27 ?k27 ?a28 ?l28 ?c28 ?k28 ?a29 ?l29 ?c29 ?k29 ?a30 ?l30 ?c30 ?k30 ?a31 ?l31 ?c31 ?k31 ?a32 ?l32 ?c32 ?k32 ?a33 ?i33 ?l33 ?c33 ?k33 ?a34 ?i34 ?l34 ?c34 ?k34 ?a35 ?i35 ?l35 ?c35 ?k35 ?a36 ?i36 ?l36 ?c36 ?k36 ?a37 ?i37 ?l37 ?c37 ?k37 ?a38 ?i38 ?l38 ?c38 ?k38 ?a39 ?i39 ?l39 ?c39 ?k39 ?a40 ?i40 ?l40 ?c40 ?k40 ?a41 ?i41 ?l41 ?c41 ?k41 ?a42 ?i42 ?l42 ?c42 ?k42 ?a43 ?i43 ?l43 ?c43 ?k43 ?a44 ?i44 ?l44 ?c44 ?k44 ?a45 ?i45 ?l45 ?c45 ?k45 ?a46 ?i46 ?l46 ?c46 ?k46 ?a47 ?i47 ?l47 ?c47 ?k47 ?a48 ?l48 ?c48 ?k48 ?a49 ?l49 ?c49 ?k49 ?a50 ?l50 ?c50 ?k50 ?a51 ?l51 ?c51 ?k51 ?a52 ?l52 ?c52 ?k52 ?a53 ?l53 ?c53 ?k53 ?a54 ?l54 ?c54 ?k54 ?a55 ?l55 ?c55 ?k55 ?a56 ?l56 ?c56 ?k56 ?pg_Book ?hd_Book ?po_Book ?sa_Book ?mk_Book ?kc_Book ?nn_Book ?nw_Book ?np_Book ?z_list ?z_range ?z_len ?z_max ?z_min ?z_int ?z_str ?z_isinstance ?z_ValueError ?zs_FIGURES ?zs_LETTERS ?zs_MOST ?xa_BookError ?xa_NoOrder ?xa_NoRoom ?xa_NoRow ?xa_NoName ?xa_NoText ?xhg_NoRoom ?xhk_NoRoom ?xhd_NoRoom ?xha_NoRoom ?xhn_NoRoom ?xht_NoRoom ?xhm_NoRoom ?xx_NoRoom ?xk_NoRoom ?xb_NoRoom ?xt_NoRoom ?xhg_NoText ?xhk_NoText ?xhd_NoText ?xha_NoText ?xhn_NoText ?xht_NoText ?xhm_NoText ?xx_NoText ?xk_NoText ?xb_NoText ?xt_NoText ?xhg_NoOrder ?xhk_NoOrder ?xhd_NoOrder ?xha_NoOrder ?xhn_NoOrder ?xht_NoOrder ?xhm_NoOrder ?xx_NoOrder ?xk_NoOrder ?xb_NoOrder ?xt_NoOrder ?xhg_NoName ?xhk_NoName ?xhd_NoName ?xha_NoName ?xhn_NoName ?xht_NoName ?xhm_NoName ?xx_NoName ?xk_NoName ?xb_NoName ?xt_NoName ?xhg_NoRow ?xhk_NoRow ?xhd_NoRow ?xha_NoRow ?xhn_NoRow ?xht_NoRow ?xhm_NoRow ?xx_NoRow ?xk_NoRow ?xb_NoRow ?xt_NoRow ?xhd_BookError ?xb_BookError ?xt_BookError ?xs_NoRoom_NoRoom ?xs_NoRoom_NoRow ?xs_NoRoom_NoName ?xs_NoRoom_NoText ?xs_NoRoom_NoOrder ?xs_NoRoom_ValueError ?xs_NoRoom_BookError ?xs_NoText_NoText ?xs_NoText_NoRow ?xs_NoText_NoName ?xs_NoText_NoRoom ?xs_NoText_NoOrder ?xs_NoText_ValueError ?xs_NoText_BookError ?xs_NoOrder_NoOrder ?xs_NoOrder_NoRow ?xs_NoOrder_NoName ?xs_NoOrder_NoText ?xs_NoOrder_NoRoom ?xs_NoOrder_ValueError ?xs_NoOrder_BookError ?xs_NoName_NoName ?xs_NoName_NoRow ?xs_NoName_NoText ?xs_NoName_NoRoom ?xs_NoName_NoOrder ?xs_NoName_ValueError ?xs_NoName_BookError ?xs_NoRow_NoRow ?xs_NoRow_NoName ?xs_NoRow_NoText ?xs_NoRow_NoRoom ?xs_NoRow_NoOrder ?xs_NoRow_ValueError ?xs_NoRow_BookError
    (case ac_Book => k_is)
    (case a0 => k_is)
    (case l0 => k_is)
    (case c0 => k_is)
    (case k0 => k_is)
    (case a1 => k_is)
    (case l1 => k_is)
    (case c1 => k_is)
    (case k1 => k_is)
    (case a2 => k_is)
    (case l2 => k_is)
    (case c2 => k_is)
    (case k2 => k_is)
    (case a3 => k_is)
    (case l3 => k_is)
    (case c3 => k_is)
    (case k3 => k_is)
    (case a4 => k_is)
    (case l4 => k_is)
    (case c4 => k_is)
    (case k4 => k_is)
    (case a5 => k_is)
    (case l5 => k_is)
    (case c5 => k_is)
    (case k5 => k_is)
    (case a6 => k_is)
    (case l6 => k_is)
    (case c6 => k_is)
    (case k6 => k_is)
    (case a7 => k_is)
    (case l7 => k_is)
    (case c7 => k_is)
    (case k7 => k_is)
    (case a8 => k_is)
    (case l8 => k_is)
    (case c8 => k_is)
    (case k8 => k_is)
    (case a9 => k_is)
    (case l9 => k_is)
    (case c9 => k_is)
    (case k9 => k_is)
    (case a10 => k_is)
    (case l10 => k_is)
    (case c10 => k_is)
    (case k10 => k_is)
    (case a11 => k_is)
    (case l11 => k_is)
    (case c11 => k_is)
    (case k11 => k_is)
    (case a12 => k_is)
    (case l12 => k_is)
    (case c12 => k_is)
    (case k12 => k_is)
    (case a13 => k_is)
    (case l13 => k_is)
    (case c13 => k_is)
    (case k13 => k_is)
    (case a14 => k_is)
    (case l14 => k_is)
    (case c14 => k_is)
    (case k14 => k_is)
    (case a15 => k_is)
    (case l15 => k_is)
    (case c15 => k_is)
    (case k15 => k_is)
    (case a16 => k_is)
    (case l16 => k_is)
    (case c16 => k_is)
    (case k16 => k_is)
    (case a17 => k_is)
    (case l17 => k_is)
    (case c17 => k_is)
    (case k17 => k_is)
    (case a18 => k_is)
    (case l18 => k_is)
    (case c18 => k_is)
    (case k18 => k_is)
    (case a19 => k_is)
    (case l19 => k_is)
    (case c19 => k_is)
    (case k19 => k_is)
    (case a20 => k_is)
    (case l20 => k_is)
    (case c20 => k_is)
    (case k20 => k_is)
    (case a21 => k_is)
    (case l21 => k_is)
    (case c21 => k_is)
    (case k21 => k_is)
    (case a22 => k_is)
    (case l22 => k_is)
    (case c22 => k_is)
    (case k22 => k_is)
    (case a23 => k_is)
    (case l23 => k_is)
    (case c23 => k_is)
    (case k23 => k_is)
    (case a24 => k_is)
    (case l24 => k_is)
    (case c24 => k_is)
    (case k24 => k_is)
    (case a25 => k_is)
    (case l25 => k_is)
    (case c25 => k_is)
    (case k25 => k_is)
    (case a26 => k_is)
    (case l26 => k_is)
    (case c26 => k_is)
    (case k26 => k_is)
    (case a27 => k_is)
    (case l27 => k_is)
    (case c27 => k_is)
    (case k27 => k_is)
    (case a28 => k_is)
    (case l28 => k_is)
    (case c28 => k_is)
    (case k28 => k_is)
    (case a29 => k_is)
    (case l29 => k_is)
    (case c29 => k_is)
    (case k29 => k_is)
    (case a30 => k_is)
    (case l30 => k_is)
    (case c30 => k_is)
    (case k30 => k_is)
    (case a31 => k_is)
    (case l31 => k_is)
    (case c31 => k_is)
    (case k31 => k_is)
    (case a32 => k_is)
    (case l32 => k_is)
    (case c32 => k_is)
    (case k32 => k_is)
    (case a33 => k_is)
    (case i33 => k_is)
    (case l33 => k_is)
    (case c33 => k_is)
    (case k33 => k_is)
    (case a34 => k_is)
    (case i34 => k_is)
    (case l34 => k_is)
    (case c34 => k_is)
    (case k34 => k_is)
    (case a35 => k_is)
    (case i35 => k_is)
    (case l35 => k_is)
    (case c35 => k_is)
    (case k35 => k_is)
    (case a36 => k_is)
    (case i36 => k_is)
    (case l36 => k_is)
    (case c36 => k_is)
    (case k36 => k_is)
    (case a37 => k_is)
    (case i37 => k_is)
    (case l37 => k_is)
    (case c37 => k_is)
    (case k37 => k_is)
    (case a38 => k_is)
    (case i38 => k_is)
    (case l38 => k_is)
    (case c38 => k_is)
    (case k38 => k_is)
    (case a39 => k_is)
    (case i39 => k_is)
    (case l39 => k_is)
    (case c39 => k_is)
    (case k39 => k_is)
    (case a40 => k_is)
    (case i40 => k_is)
    (case l40 => k_is)
    (case c40 => k_is)
    (case k40 => k_is)
    (case a41 => k_is)
    (case i41 => k_is)
    (case l41 => k_is)
    (case c41 => k_is)
    (case k41 => k_is)
    (case a42 => k_is)
    (case i42 => k_is)
    (case l42 => k_is)
    (case c42 => k_is)
    (case k42 => k_is)
    (case a43 => k_is)
    (case i43 => k_is)
    (case l43 => k_is)
    (case c43 => k_is)
    (case k43 => k_is)
    (case a44 => k_is)
    (case i44 => k_is)
    (case l44 => k_is)
    (case c44 => k_is)
    (case k44 => k_is)
    (case a45 => k_is)
    (case i45 => k_is)
    (case l45 => k_is)
    (case c45 => k_is)
    (case k45 => k_is)
    (case a46 => k_is)
    (case i46 => k_is)
    (case l46 => k_is)
    (case c46 => k_is)
    (case k46 => k_is)
    (case a47 => k_is)
    (case i47 => k_is)
    (case l47 => k_is)
    (case c47 => k_is)
    (case k47 => k_is)
    (case a48 => k_is)
    (case l48 => k_is)
    (case c48 => k_is)
    (case k48 => k_is)
    (case a49 => k_is)
    (case l49 => k_is)
    (case c49 => k_is)
    (case k49 => k_is)
    (case a50 => k_is)
    (case l50 => k_is)
    (case c50 => k_is)
    (case k50 => k_is)
    (case a51 => k_is)
    (case l51 => k_is)
    (case c51 => k_is)
    (case k51 => k_is)
    (case a52 => k_is)
    (case l52 => k_is)
    (case c52 => k_is)
    (case k52 => k_is)
    (case a53 => k_is)
    (case l53 => k_is)
    (case c53 => k_is)
    (case k53 => k_is)
    (case a54 => k_is)
    (case l54 => k_is)
    (case c54 => k_is)
    (case k54 => k_is)
    (case a55 => k_is)
    (case l55 => k_is)
    (case c55 => k_is)
    (case k55 => k_is)
    (case a56 => k_is)
    (case l56 => k_is)
    (case c56 => k_is)
    (case k56 => k_is)
    (case pg_Book => k_is)
    (case hd_Book => k_is)
    (case po_Book => k_is)
    (case sa_Book => k_is)
    (case mk_Book => k_is)
    (case kc_Book => k_is)
    (case nn_Book => k_is)
    (case nw_Book => k_is)
    (case np_Book => k_is)
    (case z_list => k_is)
    (case z_range => k_is)
    (case z_len => k_is)
    (case z_max => k_is)
    (case z_min => k_is)
    (case z_int => k_is)
    (case z_str => k_is)
    (case z_isinstance => k_is)
    (case z_ValueError => k_is)
    (case zs_FIGURES => k_is)
    (case zs_LETTERS => k_is)
    (case zs_MOST => k_is)
    (case xa_BookError => k_is)
    (case xa_NoOrder => k_is)
    (case xa_NoRoom => k_is)
    (case xa_NoRow => k_is)
    (case xa_NoName => k_is)
    (case xa_NoText => k_is)
    (case xhg_NoRoom => k_is)
    (case xhk_NoRoom => k_is)
    (case xhd_NoRoom => k_is)
    (case xha_NoRoom => k_is)
    (case xhn_NoRoom => k_is)
    (case xht_NoRoom => k_is)
    (case xhm_NoRoom => k_is)
    (case xx_NoRoom => k_exc)
    (case xk_NoRoom => k_is)
    (case xb_NoRoom => k_is)
    (case xt_NoRoom => k_is)
    (case xhg_NoText => k_is)
    (case xhk_NoText => k_is)
    (case xhd_NoText => k_is)
    (case xha_NoText => k_is)
    (case xhn_NoText => k_is)
    (case xht_NoText => k_is)
    (case xhm_NoText => k_is)
    (case xx_NoText => k_exc)
    (case xk_NoText => k_is)
    (case xb_NoText => k_is)
    (case xt_NoText => k_is)
    (case xhg_NoOrder => k_is)
    (case xhk_NoOrder => k_is)
    (case xhd_NoOrder => k_is)
    (case xha_NoOrder => k_is)
    (case xhn_NoOrder => k_is)
    (case xht_NoOrder => k_is)
    (case xhm_NoOrder => k_is)
    (case xx_NoOrder => k_exc)
    (case xk_NoOrder => k_is)
    (case xb_NoOrder => k_is)
    (case xt_NoOrder => k_is)
    (case xhg_NoName => k_is)
    (case xhk_NoName => k_is)
    (case xhd_NoName => k_is)
    (case xha_NoName => k_is)
    (case xhn_NoName => k_is)
    (case xht_NoName => k_is)
    (case xhm_NoName => k_is)
    (case xx_NoName => k_exc)
    (case xk_NoName => k_is)
    (case xb_NoName => k_is)
    (case xt_NoName => k_is)
    (case xhg_NoRow => k_is)
    (case xhk_NoRow => k_is)
    (case xhd_NoRow => k_is)
    (case xha_NoRow => k_is)
    (case xhn_NoRow => k_is)
    (case xht_NoRow => k_is)
    (case xhm_NoRow => k_is)
    (case xx_NoRow => k_exc)
    (case xk_NoRow => k_is)
    (case xb_NoRow => k_is)
    (case xt_NoRow => k_is)
    (case xhd_BookError => k_is)
    (case xb_BookError => k_is)
    (case xt_BookError => k_is)
    (case xs_NoRoom_NoRoom => k_is)
    (case xs_NoRoom_NoRow => k_is)
    (case xs_NoRoom_NoName => k_is)
    (case xs_NoRoom_NoText => k_is)
    (case xs_NoRoom_NoOrder => k_is)
    (case xs_NoRoom_ValueError => k_is)
    (case xs_NoRoom_BookError => k_is)
    (case xs_NoText_NoText => k_is)
    (case xs_NoText_NoRow => k_is)
    (case xs_NoText_NoName => k_is)
    (case xs_NoText_NoRoom => k_is)
    (case xs_NoText_NoOrder => k_is)
    (case xs_NoText_ValueError => k_is)
    (case xs_NoText_BookError => k_is)
    (case xs_NoOrder_NoOrder => k_is)
    (case xs_NoOrder_NoRow => k_is)
    (case xs_NoOrder_NoName => k_is)
    (case xs_NoOrder_NoText => k_is)
    (case xs_NoOrder_NoRoom => k_is)
    (case xs_NoOrder_ValueError => k_is)
    (case xs_NoOrder_BookError => k_is)
    (case xs_NoName_NoName => k_is)
    (case xs_NoName_NoRow => k_is)
    (case xs_NoName_NoText => k_is)
    (case xs_NoName_NoRoom => k_is)
    (case xs_NoName_NoOrder => k_is)
    (case xs_NoName_ValueError => k_is)
    (case xs_NoName_BookError => k_is)
    (case xs_NoRow_NoRow => k_is)
    (case xs_NoRow_NoName => k_is)
    (case xs_NoRow_NoText => k_is)
    (case xs_NoRow_NoRoom => k_is)
    (case xs_NoRow_NoOrder => k_is)
    (case xs_NoRow_ValueError => k_is)
    (case xs_NoRow_BookError => k_is)
#print axioms PySem.Challenge.cw_hastebook_k63_rows_refused_holds
