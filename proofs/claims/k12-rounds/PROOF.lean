import PyProof.Rows.All
import Wide.All
import OpenK.AllK
import Wide.FinOn
import HandS.ForMost
import HandS.Exc
import HandS.TryOnly
import HandS.ExcOwn
import HandS.WordsExc
import HandS.IsInst
import HandS.TupAny
import HandS.TupMul
import HandS.Deep
import HandS.Flow
import HandS.Walk
import HandS.Zip
import HandS.Style
import HandS.Wide
import HandS.WideBits
import KE.DataMinMax
import HandS.Head0
import HandS.Head1
import HandS.Head2
import HandS.HeadEnd
import HandS.HeadHook1
import HandS.HeadHook2
import HandS.Defaults
import PySem.Challenge.RW_runsolved_k12_how_often_a_round_is_gone
set_option Elab.async false
set_option linter.all false
set_option maxRecDepth 100000
set_option maxHeartbeats 4000000
/-! Pu: a layer of pure values over HandS: what an expression, a statement, a def gives, said without a heap. -/
namespace Pu
open PySem PySem.Spec PyProof.Rows L2

/-- a pure value; fls: a list that is only read (the script, a list of the text's top) -/
inductive PV where
  | non | bl (b : Bool) | int (i : Int) | str (x : Str)
  | lst (xs : List PV) | tup (xs : List PV) | fls (xs : List PV)
  | obj (c : Str) (fs : List (Str × PV))
  | dic (kvs : List (Key × PV))

section
variable (K : PySem.W.Frag) (mg : Str → Option Value)
mutual
inductive Rep (S : Hp) : V → PV → Prop
  | non : Rep S .non .non
  | bl {b : Bool} : Rep S (.bl b) (.bl b)
  | int {i : Int} : Rep S (.int i) (.int i)
  | str {x : Str} : Rep S (.str x) (.str x)
  | lst {a : Addr} {vs : List V} {ps : List PV} : S a = some (.lst vs) → Reps S vs ps → Rep S (.ref a) (.lst ps)
  | tup {a : Addr} {vs : List V} {ps : List PV} : SqT K S a vs → Reps S vs ps → Rep S (.ref a) (.tup ps)
  | fls {a : Addr} {vs : List V} {ps : List PV} : SqL K S a vs → Reps S vs ps → Rep S (.ref a) (.fls ps)
  | obj {a C dx : Addr} {c : Str} {fv : List (Str × V)} {fs : List (Str × PV)} : S a = some (.ins C dx fv) → mg c = some (.ref C) → fv.map Prod.fst = fs.map Prod.fst → Reps S (fv.map Prod.snd) (fs.map Prod.snd) → Rep S (.ref a) (.obj c fs)
  | dic {a : Addr} {kv : List (Key × V)} {kp : List (Key × PV)} : S a = some (.dK kv) → kv.map Prod.fst = kp.map Prod.fst → Reps S (kv.map Prod.snd) (kp.map Prod.snd) → Rep S (.ref a) (.dic kp)
inductive Reps (S : Hp) : List V → List PV → Prop
  | nil : Reps S [] []
  | cons {v : V} {vs : List V} {p : PV} {ps : List PV} : Rep S v p → Reps S vs ps → Reps S (v :: vs) (p :: ps)
end
end
section
variable {K : PySem.W.Frag} {mg : Str → Option Value}
theorem seqT {S S' : Hp} (e : Same S S') {a : Addr} {xs : List V} (h : SqT K S a xs) : SqT K S' a xs := by
  rcases h with (h | ⟨o, h⟩) | h
  · exact .inl (.inl (e _ _ h))
  · exact .inl (.inr ⟨o, e _ _ h⟩)
  · exact .inr h
mutual
theorem Rep.mono {S S' : Hp} (e : Same S S') : ∀ {v : V} {p : PV}, Rep K mg S v p → Rep K mg S' v p
  | _, _, .non => .non
  | _, _, .bl => .bl
  | _, _, .int => .int
  | _, _, .str => .str
  | _, _, .lst h r => .lst (e _ _ h) (Reps.mono e r)
  | _, _, .tup h r => .tup (seqT e h) (Reps.mono e r)
  | _, _, .fls h r => .fls (e.seq h) (Reps.mono e r)
  | _, _, .obj h m k r => .obj (e _ _ h) m k (Reps.mono e r)
  | _, _, .dic h k r => .dic (e _ _ h) k (Reps.mono e r)
theorem Reps.mono {S S' : Hp} (e : Same S S') : ∀ {vs : List V} {ps : List PV}, Reps K mg S vs ps → Reps K mg S' vs ps
  | _, _, .nil => .nil
  | _, _, .cons h r => .cons (Rep.mono e h) (Reps.mono e r)
end
theorem Reps.length {S : Hp} : ∀ {vs : List V} {ps : List PV}, Reps K mg S vs ps → vs.length = ps.length
  | _, _, .nil => rfl
  | _, _, .cons _ r => congrArg Nat.succ r.length
theorem Reps.append {S : Hp} : ∀ {vs ws : List V} {ps qs : List PV}, Reps K mg S vs ps → Reps K mg S ws qs → Reps K mg S (vs ++ ws) (ps ++ qs)
  | _, _, _, _, .nil, r => r
  | _, _, _, _, .cons h t, r => .cons h (t.append r)
theorem Reps.one {S : Hp} {v : V} {p : PV} (h : Rep K mg S v p) : Reps K mg S [v] [p] := .cons h .nil
theorem Reps.get {S : Hp} : ∀ {vs : List V} {ps : List PV} {i : Nat} {p : PV}, Reps K mg S vs ps → ps[i]? = some p → ∃ v, vs[i]? = some v ∧ Rep K mg S v p
  | _, _, _, _, .nil, e => by simp at e
  | _, _, 0, _, .cons h _, e => by simp at e; subst e; exact ⟨_, rfl, h⟩
  | _, _, i + 1, p, .cons _ t, e => by
    obtain ⟨u, h1, h2⟩ := Reps.get (i := i) (p := p) t (by simpa using e)
    exact ⟨u, by simpa using h1, h2⟩
theorem Reps.getV {S : Hp} {vs : List V} {ps : List PV} {i : Nat} {v : V} (r : Reps K mg S vs ps) (e : vs[i]? = some v) : ∃ p, ps[i]? = some p ∧ Rep K mg S v p := by
  have hi : i < ps.length := by rw [← r.length]; exact (List.getElem?_eq_some_iff.mp e).1
  obtain ⟨u, h1, h2⟩ := r.get (List.getElem?_eq_getElem hi)
  rw [e] at h1; cases h1
  exact ⟨_, List.getElem?_eq_getElem hi, h2⟩
theorem Reps.take {S : Hp} : ∀ {vs : List V} {ps : List PV} (n : Nat), Reps K mg S vs ps → Reps K mg S (vs.take n) (ps.take n)
  | _, _, 0, _ => .nil
  | _, _, _ + 1, .nil => .nil
  | _, _, n + 1, .cons r t => .cons r (Reps.take n t)
theorem Reps.drop {S : Hp} : ∀ {vs : List V} {ps : List PV} (n : Nat), Reps K mg S vs ps → Reps K mg S (vs.drop n) (ps.drop n)
  | _, _, 0, r => r
  | _, _, _ + 1, .nil => .nil
  | _, _, n + 1, .cons _ t => Reps.drop n t
theorem Reps.set {S : Hp} {v : V} {p : PV} (h : Rep K mg S v p) : ∀ {vs : List V} {ps : List PV} (i : Nat), Reps K mg S vs ps → Reps K mg S (vs.set i v) (ps.set i p)
  | _, _, _, .nil => .nil
  | _, _, 0, .cons _ t => .cons h t
  | _, _, i + 1, .cons q t => .cons q (Reps.set h i t)
theorem Reps.dropLast {S : Hp} {vs : List V} {ps : List PV} (r : Reps K mg S vs ps) : Reps K mg S vs.dropLast ps.dropLast := by
  rw [List.dropLast_eq_take, List.dropLast_eq_take, r.length]; exact r.take _
theorem Reps.reverse {S : Hp} : ∀ {vs : List V} {ps : List PV}, Reps K mg S vs ps → Reps K mg S vs.reverse ps.reverse
  | _, _, .nil => .nil
  | _, _, .cons h t => by rw [List.reverse_cons, List.reverse_cons]; exact t.reverse.append (.one h)
theorem Reps.rep {S : Hp} {vs : List V} {ps : List PV} (r : Reps K mg S vs ps) : ∀ n : Nat, Reps K mg S (List.replicate n vs).flatten (List.replicate n ps).flatten
  | 0 => .nil
  | n + 1 => by rw [List.replicate_succ, List.replicate_succ, List.flatten_cons, List.flatten_cons]; exact r.append (Reps.rep r n)
theorem Reps.ints {S : Hp} : ∀ (ns : List Int), Reps K mg S (ns.map V.int) (ns.map PV.int)
  | [] => .nil
  | _ :: ns => .cons .int (Reps.ints ns)
end

/-! ### what grows -/
/-- S: what stands still; H: all that is tracked -/
structure Ext (S H S' H' : Hp) : Prop where
  s : Same S S'
  h : Same H H'
  sh : Same S' H'
  fr : ∀ a o, S' a = some o → S a = some o ∨ H a = none
theorem Ext.refl {S H : Hp} (e : Same S H) : Ext S H S H := ⟨Same.refl _, Same.refl _, e, fun _ _ h => .inl h⟩
theorem Ext.trans {S H S1 H1 S2 H2 : Hp} (a : Ext S H S1 H1) (b : Ext S1 H1 S2 H2) : Ext S H S2 H2 :=
  ⟨a.s.trans b.s, a.h.trans b.h, b.sh, fun x o e => by
    rcases b.fr x o e with q | q
    · exact a.fr x o q
    · exact .inr (a.h.free q)⟩
theorem same_new {H : Hp} {p : Addr} {o : HO} (h : H p = none) : Same H (upd H p o) := fun b u e => by
  rw [upd_ne (ne_of_none e h)]; exact e
/-- a new object that stands still from the first -/
theorem Ext.new {S H : Hp} (e : Same S H) {p : Addr} {o : HO} (h : H p = none) : Ext S H (upd S p o) (upd H p o) :=
  ⟨same_new (e.free h), same_new h, fun b u q => by
    by_cases hb : b = p
    · subst hb; rw [upd_same] at q ⊢; exact q
    · rw [upd_ne hb] at q ⊢; exact e b u q, fun a u q => by
    by_cases hb : a = p
    · subst hb; exact .inr h
    · rw [upd_ne hb] at q; exact .inl q⟩
/-- a new object that is not yet still -/
theorem Ext.own {S H : Hp} (e : Same S H) {p : Addr} {o : HO} (h : H p = none) : Ext S H S (upd H p o) :=
  ⟨Same.refl _, same_new h, fun b u q => same_new h b u (e b u q), fun _ _ q => .inl q⟩

/-! ### the slots -/
/-- oo: an object that its name alone holds, its fields likewise -/
inductive Slot where
  | un | sh (p : PV) | ow (xs : List PV) | od (kvs : List (Key × PV)) | oo (c : Str) (fs : List (Str × Slot))
abbrev Env := List Slot
mutual
inductive SlotOk (K : PySem.W.Frag) (mg : Str → Option Value) (S H0 H : Hp) : Option V → Slot → List Addr → Prop
  | un {v : Option V} : SlotOk K mg S H0 H v .un []
  | sh {v : V} {p : PV} : Rep K mg S v p → SlotOk K mg S H0 H (some v) (.sh p) []
  | ow {a : Addr} {vs : List V} {xs : List PV} : S a = none → H0 a = none → H a = some (.lst vs) → Reps K mg S vs xs → SlotOk K mg S H0 H (some (.ref a)) (.ow xs) [a]
  | od {a : Addr} {kv : List (Key × V)} {kp : List (Key × PV)} : S a = none → H0 a = none → H a = some (.dK kv) → kv.map Prod.fst = kp.map Prod.fst → Reps K mg S (kv.map Prod.snd) (kp.map Prod.snd) → SlotOk K mg S H0 H (some (.ref a)) (.od kp) [a]
  | oo {a C dx : Addr} {c : Str} {fv : List (Str × V)} {fs : List (Str × Slot)} {fp : List Addr} : S a = none → H0 a = none → H a = some (.ins C dx fv) → mg c = some (.ref C) → FldsOk K mg S H0 H fv fs fp → a ∉ fp → SlotOk K mg S H0 H (some (.ref a)) (.oo c fs) (a :: fp)
inductive FldsOk (K : PySem.W.Frag) (mg : Str → Option Value) (S H0 H : Hp) : List (Str × V) → List (Str × Slot) → List Addr → Prop
  | nil : FldsOk K mg S H0 H [] [] []
  | cons {f : Str} {v : V} {s : Slot} {fp fq : List Addr} {r : List (Str × V)} {r' : List (Str × Slot)} : SlotOk K mg S H0 H (some v) s fp → FldsOk K mg S H0 H r r' fq → (∀ a ∈ fp, a ∉ fq) → FldsOk K mg S H0 H ((f, v) :: r) ((f, s) :: r') (fp ++ fq)
end
section
variable {K : PySem.W.Frag} {mg : Str → Option Value} {S S' H0 H H' : Hp}
mutual
theorem SlotOk.foot : ∀ {v : Option V} {s : Slot} {fp : List Addr}, SlotOk K mg S H0 H v s fp → ∀ a ∈ fp, S a = none ∧ H0 a = none ∧ ∃ o, H a = some o
  | _, _, _, .un, a, ha => by cases ha
  | _, _, _, .sh _, a, ha => by cases ha
  | _, _, _, .ow h1 h2 h3 _, a, ha => by
    obtain rfl : a = _ := by simpa using ha
    exact ⟨h1, h2, _, h3⟩
  | _, _, _, .od h1 h2 h3 _ _, a, ha => by
    obtain rfl : a = _ := by simpa using ha
    exact ⟨h1, h2, _, h3⟩
  | _, _, _, .oo h1 h2 h3 _ r _, a, ha => by
    rcases List.mem_cons.mp ha with rfl | ha
    · exact ⟨h1, h2, _, h3⟩
    · exact FldsOk.foot r a ha
theorem FldsOk.foot : ∀ {v : List (Str × V)} {s : List (Str × Slot)} {fp : List Addr}, FldsOk K mg S H0 H v s fp → ∀ a ∈ fp, S a = none ∧ H0 a = none ∧ ∃ o, H a = some o
  | _, _, _, .nil, a, ha => by cases ha
  | _, _, _, .cons h r _, a, ha => by
    rcases List.mem_append.mp ha with ha | ha
    · exact SlotOk.foot h a ha
    · exact FldsOk.foot r a ha
end
mutual
/-- S grows apart from the footprint, H keeps the footprint -/
theorem SlotOk.move (e : Same S S') : ∀ {v : Option V} {s : Slot} {fp : List Addr}, SlotOk K mg S H0 H v s fp → (∀ a ∈ fp, S' a = none) → (∀ a ∈ fp, ∀ o, H a = some o → H' a = some o) → SlotOk K mg S' H0 H' v s fp
  | _, _, _, .un, _, _ => .un
  | _, _, _, .sh r, _, _ => .sh (r.mono e)
  | _, _, _, .ow h1 h2 h3 r, n, k => .ow (n _ (by simp)) h2 (k _ (by simp) _ h3) (r.mono e)
  | _, _, _, .od h1 h2 h3 kk r, n, k => .od (n _ (by simp)) h2 (k _ (by simp) _ h3) kk (r.mono e)
  | _, _, _, .oo h1 h2 h3 m r d, n, k => .oo (n _ (by simp)) h2 (k _ (by simp) _ h3) m (FldsOk.move e r (fun a ha => n a (by simp [ha])) (fun a ha => k a (by simp [ha]))) d
theorem FldsOk.move (e : Same S S') : ∀ {v : List (Str × V)} {s : List (Str × Slot)} {fp : List Addr}, FldsOk K mg S H0 H v s fp → (∀ a ∈ fp, S' a = none) → (∀ a ∈ fp, ∀ o, H a = some o → H' a = some o) → FldsOk K mg S' H0 H' v s fp
  | _, _, _, .nil, _, _ => .nil
  | _, _, _, .cons h r d, n, k => .cons (SlotOk.move e h (fun a ha => n a (by simp [ha])) (fun a ha => k a (by simp [ha]))) (FldsOk.move e r (fun a ha => n a (by simp [ha])) (fun a ha => k a (by simp [ha]))) d
end
end

/-- what is fixed through a def's body: what stood still at the entry, what was tracked there -/
def upF (fp : Nat → List Addr) (i : Nat) (f : List Addr) : Nat → List Addr := fun j => if j = i then f else fp j
theorem upF_same {fp : Nat → List Addr} {i : Nat} {f : List Addr} : upF fp i f i = f := if_pos rfl
theorem upF_ne {fp : Nat → List Addr} {i j : Nat} {f : List Addr} (h : j ≠ i) : upF fp i f j = fp j := if_neg h
structure Bs where
  S0 : Hp
  H0 : Hp
  me : Option Addr := none
structure RelF (K : PySem.W.Frag) (mg : Str → Option Value) (B : Bs) (S : Hp) (σ : L2.St) (H : Hp) (ρ : Env) (fp : Nat → List Addr) : Prop where
  s0 : Same B.S0 S
  sh : Same S H
  h0 : Same B.H0 H
  fr : ∀ a o, S a = some o → B.S0 a = some o ∨ B.H0 a = none
  len : ρ.length = σ.length
  slots : ∀ (i : Nat) (s : Slot), ρ[i]? = some s → ∃ v, σ[i]? = some v ∧ SlotOk K mg S B.H0 H v s (fp i)
  dis : ∀ (i j : Nat) (a : Addr), i < ρ.length → j < ρ.length → a ∈ fp i → a ∈ fp j → i = j
  me : ∀ a, B.me = some a → σ[0]? = some (some (.ref a))
def Rel (K : PySem.W.Frag) (mg : Str → Option Value) (B : Bs) (S : Hp) (σ : L2.St) (H : Hp) (ρ : Env) : Prop := ∃ fp, RelF K mg B S σ H ρ fp
section
variable {K : PySem.W.Frag} {mg : Str → Option Value} {B : Bs} {S S' H H' : Hp} {σ : L2.St} {ρ : Env} {fp : Nat → List Addr}
theorem RelF.foot (R : RelF K mg B S σ H ρ fp) {i : Nat} {a : Addr} (hi : i < ρ.length) (ha : a ∈ fp i) : S a = none ∧ B.H0 a = none ∧ ∃ o, H a = some o := by
  obtain ⟨v, _, q⟩ := R.slots i _ (List.getElem?_eq_getElem hi)
  exact q.foot a ha
theorem Rel.s0 (R : Rel K mg B S σ H ρ) : Same B.S0 S := let ⟨_, r⟩ := R; r.s0
theorem Rel.sh (R : Rel K mg B S σ H ρ) : Same S H := let ⟨_, r⟩ := R; r.sh
theorem Rel.h0 (R : Rel K mg B S σ H ρ) : Same B.H0 H := let ⟨_, r⟩ := R; r.h0
theorem Rel.fr (R : Rel K mg B S σ H ρ) : ∀ a o, S a = some o → B.S0 a = some o ∨ B.H0 a = none := let ⟨_, r⟩ := R; r.fr
theorem Rel.len (R : Rel K mg B S σ H ρ) : ρ.length = σ.length := let ⟨_, r⟩ := R; r.len
theorem Rel.slot (R : Rel K mg B S σ H ρ) {i : Nat} {p : PV} (h : ρ[i]? = some (.sh p)) : ∃ v, σ[i]? = some (some v) ∧ Rep K mg S v p := by
  obtain ⟨fp, R⟩ := R
  obtain ⟨v, e, q⟩ := R.slots i _ h
  generalize fp i = g at q
  cases q with
  | sh r => exact ⟨_, e, r⟩
theorem Rel.ows (R : Rel K mg B S σ H ρ) {i : Nat} {xs : List PV} (h : ρ[i]? = some (.ow xs)) : ∃ a vs, σ[i]? = some (some (.ref a)) ∧ S a = none ∧ B.H0 a = none ∧ H a = some (.lst vs) ∧ Reps K mg S vs xs := by
  obtain ⟨fp, R⟩ := R
  obtain ⟨v, e, q⟩ := R.slots i _ h
  generalize fp i = g at q
  cases q with
  | ow q1 q2 q3 r => exact ⟨_, _, e, q1, q2, q3, r⟩
theorem Rel.ods (R : Rel K mg B S σ H ρ) {i : Nat} {xs : List (Key × PV)} (h : ρ[i]? = some (.od xs)) : ∃ a kv, σ[i]? = some (some (.ref a)) ∧ S a = none ∧ B.H0 a = none ∧ H a = some (.dK kv) ∧ kv.map Prod.fst = xs.map Prod.fst ∧ Reps K mg S (kv.map Prod.snd) (xs.map Prod.snd) := by
  obtain ⟨fp, R⟩ := R
  obtain ⟨v, e, q⟩ := R.slots i _ h
  generalize fp i = g at q
  cases q with
  | od q1 q2 q3 kk r => exact ⟨_, _, e, q1, q2, q3, kk, r⟩
/-- behind an expression -/
theorem RelF.ext (R : RelF K mg B S σ H ρ fp) (e : Ext S H S' H') : RelF K mg B S' σ H' ρ fp := by
  refine ⟨R.s0.trans e.s, e.sh, R.h0.trans e.h, fun a o q => ?_, R.len, fun i s hs => ?_, R.dis, R.me⟩
  · rcases e.fr a o q with z | z
    · exact R.fr a o z
    · exact .inr (R.h0.free z)
  · obtain ⟨v, ev, q⟩ := R.slots i s hs
    refine ⟨v, ev, q.move e.s (fun a ha => ?_) fun a _ o ho => e.h a o ho⟩
    obtain ⟨n1, n2, o, n3⟩ := q.foot a ha
    cases z : S' a with
    | none => rfl
    | some u =>
      rcases e.fr a u z with y | y
      · rw [n1] at y; cases y
      · rw [n3] at y; cases y
theorem Rel.ext (R : Rel K mg B S σ H ρ) (e : Ext S H S' H') : Rel K mg B S' σ H' ρ := let ⟨fp, r⟩ := R; ⟨fp, r.ext e⟩
/-- the whole def's growth -/
theorem Rel.whole (R : Rel K mg B S σ H ρ) : Ext B.S0 B.H0 S H := ⟨R.s0, R.h0, R.sh, R.fr⟩
theorem Ext.grow (e : Same S H) (g : Same H H') : Ext S H S H' := ⟨Same.refl _, g, e.trans g, fun _ _ h => .inl h⟩
/-- only H grew -/
theorem Rel.grow (R : Rel K mg B S σ H ρ) (e : Same H H') : Rel K mg B S σ H' ρ := R.ext (Ext.grow R.sh e)
/-- a slot is stored -/
theorem RelF.put (R : RelF K mg B S σ H ρ fp) {i : Nat} {v : Option V} {s : Slot} {f : List Addr} (h : SlotOk K mg S B.H0 H v s f) (hf : ∀ a ∈ f, ∀ (j : Nat), j ≠ i → j < ρ.length → a ∉ fp j) (h0 : B.me = none ∨ i ≠ 0) :
    RelF K mg B S (σ.set i v) H (ρ.set i s) (upF fp i f) := by
  refine ⟨R.s0, R.sh, R.h0, R.fr, by simp [R.len], fun j t ht => ?_, fun j k a hj hk ha hb => ?_, fun a ha => ?_⟩
  · by_cases hji : j = i
    · subst hji
      have hi : j < ρ.length := by
        have q := (List.getElem?_eq_some_iff.mp ht).1
        simpa using q
      have hσ : j < σ.length := by rw [← R.len]; exact hi
      rw [List.getElem?_set_self hi] at ht; cases ht
      exact ⟨v, List.getElem?_set_self hσ, by rw [upF_same]; exact h⟩
    · rw [List.getElem?_set_ne (Ne.symm hji)] at ht ⊢
      rw [upF_ne hji]
      exact R.slots j t ht
  · rw [List.length_set] at hj hk
    by_cases j1 : j = i
    · by_cases k1 : k = i
      · rw [j1, k1]
      · rw [j1, upF_same] at ha; rw [upF_ne k1] at hb
        exact absurd hb (hf a ha k k1 hk)
    · by_cases k1 : k = i
      · rw [upF_ne j1] at ha; rw [k1, upF_same] at hb
        exact absurd ha (hf a hb j j1 hj)
      · rw [upF_ne j1] at ha; rw [upF_ne k1] at hb
        exact R.dis j k a hj hk ha hb
  · rcases h0 with z | z
    · rw [z] at ha; cases ha
    · rw [List.getElem?_set_ne z]; exact R.me a ha
theorem Rel.putSh (R : Rel K mg B S σ H ρ) (i : Nat) {v : V} {p : PV} (h : Rep K mg S v p) (h0 : B.me = none ∨ i ≠ 0) : Rel K mg B S (σ.set i (some v)) H (ρ.set i (.sh p)) :=
  let ⟨_, r⟩ := R
  ⟨_, r.put (.sh h) (fun a ha => by cases ha) h0⟩
theorem Rel.putUn (R : Rel K mg B S σ H ρ) (i : Nat) (v : Option V) (h0 : B.me = none ∨ i ≠ 0) : Rel K mg B S (σ.set i v) H (ρ.set i .un) :=
  let ⟨_, r⟩ := R
  ⟨_, r.put .un (fun a ha => by cases ha) h0⟩
/-- a fresh list goes to a slot -/
theorem Rel.putOw (R : Rel K mg B S σ H ρ) (e : Ext S H S' H') (i : Nat) {a : Addr} {vs : List V} {xs : List PV} (hn : H a = none) (h1 : S' a = none) (h3 : H' a = some (.lst vs)) (r : Reps K mg S' vs xs) (h0 : B.me = none ∨ i ≠ 0) :
    Rel K mg B S' (σ.set i (some (.ref a))) H' (ρ.set i (.ow xs)) := by
  obtain ⟨fp, R⟩ := R
  refine ⟨_, (R.ext e).put (.ow h1 (R.h0.free hn) h3 r) (fun b hb j hj hl hm => ?_) h0⟩
  obtain rfl : b = a := by simpa using hb
  obtain ⟨_, _, o, z⟩ := R.foot hl hm
  rw [hn] at z; cases z
theorem Rel.putOd (R : Rel K mg B S σ H ρ) (e : Ext S H S' H') (i : Nat) {a : Addr} {kv : List (Key × V)} {kp : List (Key × PV)} (hn : H a = none) (h1 : S' a = none) (h3 : H' a = some (.dK kv)) (hk : kv.map Prod.fst = kp.map Prod.fst) (r : Reps K mg S' (kv.map Prod.snd) (kp.map Prod.snd)) (h0 : B.me = none ∨ i ≠ 0) :
    Rel K mg B S' (σ.set i (some (.ref a))) H' (ρ.set i (.od kp)) := by
  obtain ⟨fp, R⟩ := R
  refine ⟨_, (R.ext e).put (.od h1 (R.h0.free hn) h3 hk r) (fun b hb j hj hl hm => ?_) h0⟩
  obtain rfl : b = a := by simpa using hb
  obtain ⟨_, _, o, z⟩ := R.foot hl hm
  rw [hn] at z; cases z
theorem set_same {α : Type} {l : List α} {i : Nat} {x : α} (h : l[i]? = some x) : l.set i x = l := by
  obtain ⟨h1, h2⟩ := List.getElem?_eq_some_iff.mp h
  rw [← h2]; exact List.set_getElem_self h1
theorem same_upd {S H : Hp} {a : Addr} {o : HO} (e : Same S H) (h : S a = none) : Same S (upd H a o) := fun b u q => by
  rw [upd_ne (ne_of_none q h)]; exact e b u q
/-- the object of an owned slot is changed -/
theorem RelF.mut (R : RelF K mg B S σ H ρ fp) {i : Nat} {a : Addr} {s : Slot} {o : HO} {v : Option V} (hi : i < ρ.length) (hm : a ∈ fp i) (hv : σ[i]? = some v) (h : SlotOk K mg S B.H0 (upd H a o) v s (fp i)) : RelF K mg B S σ (upd H a o) (ρ.set i s) fp := by
  obtain ⟨n1, n2, _⟩ := R.foot hi (a := a) hm
  refine ⟨R.s0, same_upd R.sh n1, same_upd R.h0 n2, R.fr, by simp [R.len], fun j t ht => ?_, fun j k b hj hk => R.dis j k b (by simpa using hj) (by simpa using hk), R.me⟩
  by_cases hji : j = i
  · subst hji
    rw [List.getElem?_set_self hi] at ht; cases ht
    exact ⟨v, hv, h⟩
  · rw [List.getElem?_set_ne (Ne.symm hji)] at ht
    obtain ⟨w, e, q⟩ := R.slots j t ht
    have hl : j < ρ.length := (List.getElem?_eq_some_iff.mp ht).1
    refine ⟨w, e, q.move (Same.refl _) (fun b hb => (q.foot b hb).1) fun b hb u hu => ?_⟩
    have ne : b ≠ a := fun z => hji (R.dis j i b hl hi hb (by rw [z]; exact hm))
    rw [upd_ne ne]; exact hu
theorem Rel.mutOw (R : Rel K mg B S σ H ρ) {i : Nat} {a : Addr} {xs ys : List PV} {ws : List V} (h : ρ[i]? = some (.ow xs)) (ha : σ[i]? = some (some (.ref a))) (r : Reps K mg S ws ys) : Rel K mg B S σ (upd H a (.lst ws)) (ρ.set i (.ow ys)) := by
  obtain ⟨fp, R⟩ := R
  obtain ⟨v, e, q⟩ := R.slots i _ h
  rw [ha] at e; cases e
  refine ⟨fp, R.mut (List.getElem?_eq_some_iff.mp h).1 ?_ ha ?_⟩
  · generalize fp i = g at q ⊢
    cases q; simp
  · generalize fp i = g at q ⊢
    cases q with
    | ow q1 q2 q3 _ => exact .ow q1 q2 upd_same r
theorem Rel.mutOd (R : Rel K mg B S σ H ρ) {i : Nat} {a : Addr} {xs ys : List (Key × PV)} {kv : List (Key × V)} (h : ρ[i]? = some (.od xs)) (ha : σ[i]? = some (some (.ref a))) (hk : kv.map Prod.fst = ys.map Prod.fst) (r : Reps K mg S (kv.map Prod.snd) (ys.map Prod.snd)) :
    Rel K mg B S σ (upd H a (.dK kv)) (ρ.set i (.od ys)) := by
  obtain ⟨fp, R⟩ := R
  obtain ⟨v, e, q⟩ := R.slots i _ h
  rw [ha] at e; cases e
  refine ⟨fp, R.mut (List.getElem?_eq_some_iff.mp h).1 ?_ ha ?_⟩
  · generalize fp i = g at q ⊢
    cases q; simp
  · generalize fp i = g at q ⊢
    cases q with
    | od q1 q2 q3 _ _ => exact .od q1 q2 upd_same hk r
/-- S grows by an owned slot's object -/
theorem RelF.still (R : RelF K mg B S σ H ρ fp) {i : Nat} {a : Addr} {o : HO} {p : PV} (hi : i < ρ.length) (hm : fp i = [a]) (ha : σ[i]? = some (some (.ref a))) (ho : H a = some o) (h : Rep K mg (upd S a o) (.ref a) p) : RelF K mg B (upd S a o) σ H (ρ.set i (.sh p)) (upF fp i []) := by
  obtain ⟨n1, n2, _⟩ := R.foot hi (a := a) (by rw [hm]; simp)
  have sm : Same S (upd S a o) := same_new n1
  refine ⟨R.s0.trans sm, fun b u q => ?_, R.h0, fun b u q => ?_, by simp [R.len], fun j t ht => ?_, fun j k b hj hk q1 q2 => ?_, R.me⟩
  · by_cases e : b = a
    · subst e; rw [upd_same] at q; cases q; exact ho
    · rw [upd_ne e] at q; exact R.sh b u q
  · by_cases e : b = a
    · subst e; exact .inr n2
    · rw [upd_ne e] at q; exact R.fr b u q
  · by_cases hji : j = i
    · subst hji
      rw [List.getElem?_set_self hi] at ht; cases ht
      exact ⟨_, ha, by rw [upF_same]; exact .sh h⟩
    · rw [List.getElem?_set_ne (Ne.symm hji)] at ht
      obtain ⟨w, e, q⟩ := R.slots j t ht
      have hl : j < ρ.length := (List.getElem?_eq_some_iff.mp ht).1
      refine ⟨w, e, ?_⟩
      rw [upF_ne hji]
      refine q.move sm (fun b hb => ?_) fun b hb u hu => hu
      have ne : b ≠ a := fun z => hji (R.dis j i b hl hi hb (by rw [hm, z]; simp))
      rw [upd_ne ne]; exact (q.foot b hb).1
  · rw [List.length_set] at hj hk
    by_cases j1 : j = i
    · rw [j1, upF_same] at q1; cases q1
    · by_cases k1 : k = i
      · rw [k1, upF_same] at q2; cases q2
      · rw [upF_ne j1] at q1; rw [upF_ne k1] at q2
        exact R.dis j k b hj hk q1 q2

/-- slots frozen -/
def frz1 (i : Nat) (ρ : Env) : Env := match ρ[i]? with
  | some (.ow xs) => ρ.set i (.sh (.lst xs))
  | some (.od xs) => ρ.set i (.sh (.dic xs))
  | _ => ρ
def frzs : List Nat → Env → Env
  | [], ρ => ρ
  | i :: is, ρ => frzs is (frz1 i ρ)
/-- what one may do with S bigger, and go back -/
theorem Rel.frz1 (R : Rel K mg B S σ H ρ) (i : Nat) : ∃ S', Same S S' ∧ Rel K mg B S' σ H (frz1 i ρ) := by
  unfold Pu.frz1
  cases e : ρ[i]? with
  | none => exact ⟨S, Same.refl _, R⟩
  | some s =>
    cases s with
    | un => exact ⟨S, Same.refl _, R⟩
    | sh p => exact ⟨S, Same.refl _, R⟩
    | ow xs =>
      obtain ⟨fp, R⟩ := R
      obtain ⟨v, ev, q⟩ := R.slots i _ e
      have hi : i < ρ.length := (List.getElem?_eq_some_iff.mp e).1
      have hm : fp i = fp i := rfl
      generalize hg : fp i = g at q
      cases q with
      | @ow a vs xs q1 q2 q3 r =>
        exact ⟨upd S a (.lst vs), same_new q1, _, R.still hi hg ev q3 (.lst upd_same (r.mono (same_new q1)))⟩
    | oo c fs => exact ⟨S, Same.refl _, R⟩
    | od xs =>
      obtain ⟨fp, R⟩ := R
      obtain ⟨v, ev, q⟩ := R.slots i _ e
      have hi : i < ρ.length := (List.getElem?_eq_some_iff.mp e).1
      generalize hg : fp i = g at q
      cases q with
      | @od a kv kp q1 q2 q3 hk r =>
        exact ⟨upd S a (.dK kv), same_new q1, _, R.still hi hg ev q3 (.dic upd_same hk (r.mono (same_new q1)))⟩
theorem Rel.frzs (R : Rel K mg B S σ H ρ) : ∀ is : List Nat, ∃ S', Same S S' ∧ Rel K mg B S' σ H (frzs is ρ) := fun is => by
  induction is generalizing S ρ with
  | nil => exact ⟨S, Same.refl _, R⟩
  | cons i is ih =>
    obtain ⟨S1, e1, R1⟩ := R.frz1 i
    obtain ⟨S2, e2, R2⟩ := ih R1
    exact ⟨S2, e1.trans e2, R2⟩
end
end Pu
set_option Elab.async false
set_option linter.all false
set_option maxRecDepth 100000
set_option maxHeartbeats 4000000
namespace Pu
open PySem PySem.Spec PyProof.Rows L2

/-- an exception: its class by name, its fields -/
structure PX where
  c : Str
  fs : List (Str × PV)
def RepX (K : PySem.W.Frag) (mg : Str → Option Value) (S : Hp) (cls : Value) (d : Option Addr) (x : PX) : Prop :=
  mg x.c = some cls ∧ ((x.fs = [] ∧ d = none) ∨ ∃ dd fv, d = some dd ∧ S dd = some (.xd fv) ∧ fv.map Prod.fst = x.fs.map Prod.fst ∧ Reps K mg S (fv.map Prod.snd) (x.fs.map Prod.snd))

inductive R (α : Type) where
  | ok (a : α) | exc (x : PX) | bad
def R.bind {α β : Type} (r : R α) (f : α → R β) : R β := match r with
  | .ok a => f a
  | .exc x => .exc x
  | .bad => .bad
def R.map {α β : Type} (f : α → β) (r : R α) : R β := r.bind fun a => .ok (f a)
@[simp] theorem R.bind_ok {α β : Type} (a : α) (f : α → R β) : (R.ok a).bind f = f a := rfl
@[simp] theorem R.bind_exc {α β : Type} (x : PX) (f : α → R β) : (R.exc x : R α).bind f = .exc x := rfl
@[simp] theorem R.bind_bad {α β : Type} (f : α → R β) : (R.bad : R α).bind f = .bad := rfl
@[simp] theorem R.map_ok {α β : Type} (f : α → β) (a : α) : (R.ok a).map f = .ok (f a) := rfl
@[simp] theorem R.map_exc {α β : Type} (f : α → β) (x : PX) : (R.exc x : R α).map f = .exc x := rfl
@[simp] theorem R.map_bad {α β : Type} (f : α → β) : (R.bad : R α).map f = .bad := rfl

mutual
def toPV : Slot → R PV
  | .sh p => .ok p
  | .ow xs => .ok (.lst xs)
  | .od kvs => .ok (.dic kvs)
  | .oo c fs => (toPVs fs).bind fun ps => .ok (.obj c ps)
  | .un => .bad
def toPVs : List (Str × Slot) → R (List (Str × PV))
  | [] => .ok []
  | (f, s) :: r => (toPV s).bind fun p => (toPVs r).bind fun ps => .ok ((f, p) :: ps)
end
@[simp] theorem toPV_sh (p : PV) : toPV (.sh p) = .ok p := rfl
@[simp] theorem toPV_ow (xs : List PV) : toPV (.ow xs) = .ok (.lst xs) := rfl
@[simp] theorem toPV_od (xs : List (Key × PV)) : toPV (.od xs) = .ok (.dic xs) := rfl
@[simp] theorem toPV_oo (c : Str) (fs : List (Str × Slot)) : toPV (.oo c fs) = (toPVs fs).bind fun ps => .ok (.obj c ps) := rfl
@[simp] theorem toPVs_nil : toPVs [] = .ok [] := rfl
@[simp] theorem toPVs_cons (f : Str) (s : Slot) (r : List (Str × Slot)) : toPVs ((f, s) :: r) = (toPV s).bind fun p => (toPVs r).bind fun ps => .ok ((f, p) :: ps) := rfl
mutual
theorem toPV_noexc : ∀ {s : Slot} {x : PX}, toPV s ≠ .exc x
  | .sh _, _, h => by cases h
  | .ow _, _, h => by cases h
  | .od _, _, h => by cases h
  | .un, _, h => by cases h
  | .oo c fs, x, h => by
    rw [toPV_oo] at h
    cases z : toPVs fs with
    | ok ps => rw [z] at h; cases h
    | exc y => exact toPVs_noexc z
    | bad => rw [z] at h; cases h
theorem toPVs_noexc : ∀ {s : List (Str × Slot)} {x : PX}, toPVs s ≠ .exc x
  | [], _, h => by cases h
  | (f, s) :: r, x, h => by
    rw [toPVs_cons] at h
    cases z : toPV s with
    | ok p =>
      rw [z] at h
      cases z2 : toPVs r with
      | ok ps => rw [z2] at h; cases h
      | exc y => exact toPVs_noexc z2
      | bad => rw [z2] at h; cases h
    | exc y => exact toPV_noexc z
    | bad => rw [z] at h; cases h
end
section
variable {K : PySem.W.Frag} {mg : Str → Option Value} {H0 H : Hp}
theorem upd_in {S H : Hp} {a : Addr} {o : HO} (e : Same S H) (h : H a = some o) : Same (upd S a o) H := fun b u q => by
  by_cases z : b = a
  · subst z; rw [upd_same] at q; cases q; exact h
  · rw [upd_ne z] at q; exact e b u q
mutual
/-- an owned value is let go: S grows by its objects -/
theorem SlotOk.still : ∀ {S : Hp} {v : V} {s : Slot} {fp : List Addr} {p : PV}, SlotOk K mg S H0 H (some v) s fp → Same S H → toPV s = .ok p → ∃ S', Same S S' ∧ Same S' H ∧ (∀ a o, S' a = some o → S a = some o ∨ a ∈ fp) ∧ Rep K mg S' v p
  | _, _, .un, _, _, _, _, h => by cases h
  | S, _, .sh p, _, _, q, e, h => by
    cases h
    cases q with
    | sh r => exact ⟨S, Same.refl _, e, fun _ _ z => .inl z, r⟩
  | S, _, .ow xs, _, _, q, e, h => by
    cases h
    cases q with
    | @ow a vs _ h1 h2 h3 r =>
      refine ⟨upd S a (.lst vs), same_new h1, upd_in e h3, fun b o z => ?_, .lst upd_same (r.mono (same_new h1))⟩
      by_cases y : b = a
      · exact .inr (by simp [y])
      · rw [upd_ne y] at z; exact .inl z
  | S, _, .od xs, _, _, q, e, h => by
    cases h
    cases q with
    | @od a kv _ h1 h2 h3 k r =>
      refine ⟨upd S a (.dK kv), same_new h1, upd_in e h3, fun b o z => ?_, .dic upd_same k (r.mono (same_new h1))⟩
      by_cases y : b = a
      · exact .inr (by simp [y])
      · rw [upd_ne y] at z; exact .inl z
  | S, _, .oo c fs, _, _, q, e, h => by
    cases q with
    | @oo a C dx _ fv _ fp h1 h2 h3 m r d =>
      rw [toPV_oo] at h
      cases z : toPVs fs with
      | ok ps =>
        rw [z] at h; cases h
        obtain ⟨S1, e1, e2, e3, k, rs⟩ := FldsOk.still r e z
        have n1 : S1 a = none := by
          cases y : S1 a with
          | none => rfl
          | some u =>
            rcases e3 a u y with w | w
            · rw [h1] at w; cases w
            · exact absurd w d
        refine ⟨upd S1 a (.ins C dx fv), e1.trans (same_new n1), upd_in e2 h3, fun b o y => ?_, .obj upd_same m k (rs.mono (same_new n1))⟩
        by_cases w : b = a
        · exact .inr (by simp [w])
        · rw [upd_ne w] at y
          rcases e3 b o y with u | u
          · exact .inl u
          · exact .inr (by simp [u])
      | exc x => rw [z] at h; cases h
      | bad => rw [z] at h; cases h
theorem FldsOk.still : ∀ {S : Hp} {fv : List (Str × V)} {fs : List (Str × Slot)} {fp : List Addr} {ps : List (Str × PV)}, FldsOk K mg S H0 H fv fs fp → Same S H → toPVs fs = .ok ps →
    ∃ S', Same S S' ∧ Same S' H ∧ (∀ a o, S' a = some o → S a = some o ∨ a ∈ fp) ∧ fv.map Prod.fst = ps.map Prod.fst ∧ Reps K mg S' (fv.map Prod.snd) (ps.map Prod.snd)
  | S, _, [], _, _, q, e, h => by
    cases h
    cases q
    exact ⟨S, Same.refl _, e, fun _ _ z => .inl z, rfl, .nil⟩
  | S, _, (f, s) :: r, _, _, q, e, h => by
    cases q with
    | @cons _ v _ fp fq rv _ q1 q2 d =>
      rw [toPVs_cons] at h
      cases z : toPV s with
      | ok p =>
        rw [z] at h
        cases z2 : toPVs r with
        | ok ps =>
          rw [z2] at h; cases h
          obtain ⟨S1, a1, a2, a3, a4⟩ := SlotOk.still q1 e z
          have q2' : FldsOk K mg S1 H0 H rv r fq := q2.move a1 (fun a ha => by
            cases y : S1 a with
            | none => rfl
            | some u =>
              rcases a3 a u y with w | w
              · rw [(q2.foot a ha).1] at w; cases w
              · exact absurd ha (d a w)) (fun _ _ _ h => h)
          obtain ⟨S2, b1, b2, b3, b4, b5⟩ := FldsOk.still q2' a2 z2
          refine ⟨S2, a1.trans b1, b2, fun b o y => ?_, by simp [b4], .cons (a4.mono b1) b5⟩
          rcases b3 b o y with w | w
          · rcases a3 b o w with u | u
            · exact .inl u
            · exact .inr (by simp [u])
          · exact .inr (by simp [w])
        | exc x => rw [z2] at h; cases h
        | bad => rw [z2] at h; cases h
      | exc x => rw [z] at h; cases h
      | bad => rw [z] at h; cases h
end
mutual
theorem SlotOk.base {S H0' : Hp} : ∀ {v : Option V} {s : Slot} {fp : List Addr}, SlotOk K mg S H0 H v s fp → (∀ a ∈ fp, H0' a = none) → SlotOk K mg S H0' H v s fp
  | _, _, _, .un, _ => .un
  | _, _, _, .sh r, _ => .sh r
  | _, _, _, .ow h1 h2 h3 r, n => .ow h1 (n _ (by simp)) h3 r
  | _, _, _, .od h1 h2 h3 kk r, n => .od h1 (n _ (by simp)) h3 kk r
  | _, _, _, .oo h1 h2 h3 m r d, n => .oo h1 (n _ (by simp)) h3 m (FldsOk.base r (fun a ha => n a (by simp [ha]))) d
theorem FldsOk.base {S H0' : Hp} : ∀ {v : List (Str × V)} {s : List (Str × Slot)} {fp : List Addr}, FldsOk K mg S H0 H v s fp → (∀ a ∈ fp, H0' a = none) → FldsOk K mg S H0' H v s fp
  | _, _, _, .nil, _ => .nil
  | _, _, _, .cons h r d, n => .cons (SlotOk.base h (fun a ha => n a (by simp [ha]))) (FldsOk.base r (fun a ha => n a (by simp [ha]))) d
end
end

/-- where a result leads: what is wanted of a value, of an exception -/
def GoE (K : PySem.W.Frag) (mg : Str → Option Value) (S H : Hp) (Q : VK) (E : XK) : R PV → Prop
  | .ok p => ∀ v S' H', Ext S H S' H' → Rep K mg S' v p → Q v H'
  | .exc x => ∀ cls d S' H', Ext S H S' H' → RepX K mg S' cls d x → E cls d H'
  | .bad => False
def GoF (K : PySem.W.Frag) (mg : Str → Option Value) (S H : Hp) (Q : VK) (E : XK) : R Slot → Prop
  | .ok t => ∀ v fp S' H', Ext S H S' H' → SlotOk K mg S' H H' (some v) t fp → Q v H'
  | .exc x => ∀ cls d S' H', Ext S H S' H' → RepX K mg S' cls d x → E cls d H'
  | .bad => False
def GoT (K : PySem.W.Frag) (mg : Str → Option Value) (S H : Hp) (Q : Bool → Hp → Prop) (E : XK) : R Bool → Prop
  | .ok b => ∀ S' H', Ext S H S' H' → Q b H'
  | .exc x => ∀ cls d S' H', Ext S H S' H' → RepX K mg S' cls d x → E cls d H'
  | .bad => False
def GoA (K : PySem.W.Frag) (mg : Str → Option Value) (S H : Hp) (Q : List V → Hp → Prop) (E : XK) : R (List PV) → Prop
  | .ok ps => ∀ vs S' H', Ext S H S' H' → Reps K mg S' vs ps → Q vs H'
  | .exc x => ∀ cls d S' H', Ext S H S' H' → RepX K mg S' cls d x → E cls d H'
  | .bad => False
def eT (K : PySem.W.Frag) (mg : Str → Option Value) (B : Bs) (W : WX) (f : Env → R PV) : TE := fun σ H Q => ∃ ρ S, Rel K mg B S σ H ρ ∧ GoE K mg S H Q (fun cls d H' => W cls d σ H') (f ρ)
def fT (K : PySem.W.Frag) (mg : Str → Option Value) (B : Bs) (W : WX) (f : Env → R Slot) : TE := fun σ H Q => ∃ ρ S, Rel K mg B S σ H ρ ∧ GoF K mg S H Q (fun cls d H' => W cls d σ H') (f ρ)
def tT (K : PySem.W.Frag) (mg : Str → Option Value) (B : Bs) (W : WX) (f : Env → R Bool) : TT := fun σ H Q => ∃ ρ S, Rel K mg B S σ H ρ ∧ GoT K mg S H Q (fun cls d H' => W cls d σ H') (f ρ)
def aT (K : PySem.W.Frag) (mg : Str → Option Value) (B : Bs) (W : WX) (f : Env → R (List PV)) : TA := fun σ H Q => ∃ ρ S, Rel K mg B S σ H ρ ∧ GoA K mg S H Q (fun cls d H' => W cls d σ H') (f ρ)
abbrev EE (X : Cx) (B : Bs) (W : WX) (e : Expr) (f : Env → R PV) : Prop := PE X e (eT X.K X.mg B W f)
abbrev EF (X : Cx) (B : Bs) (W : WX) (e : Expr) (f : Env → R Slot) : Prop := PE X e (fT X.K X.mg B W f)
abbrev ET (X : Cx) (B : Bs) (W : WX) (e : Expr) (f : Env → R Bool) : Prop := PT X e (tT X.K X.mg B W f)
abbrev EW (X : Cx) (B : Bs) (W : WX) (e : Expr) (f : Env → R Bool) : Prop := PW X e (tT X.K X.mg B W f)
abbrev EA (X : Cx) (B : Bs) (W : WX) (es : List Expr) (f : Env → R (List PV)) : Prop := PA X es (aT X.K X.mg B W f)

theorem PE.imp {X : Cx} {e : Expr} {t t' : TE} (h : PE X e t) (i : ∀ σ H Q, t' σ H Q → t σ H Q) : PE X e t' := ⟨fun pins s σ H Q I q => h.run pins s σ H Q I (i σ H Q q)⟩
theorem PT.imp {X : Cx} {e : Expr} {t t' : TT} (h : PT X e t) (i : ∀ σ H Q, t' σ H Q → t σ H Q) : PT X e t' := ⟨fun pins s σ H Q I q => h.run pins s σ H Q I (i σ H Q q)⟩
theorem PW.imp {X : Cx} {e : Expr} {t t' : TT} (h : PW X e t) (i : ∀ σ H Q, t' σ H Q → t σ H Q) : PW X e t' := ⟨fun wh pins s σ H Q I q => h.run wh pins s σ H Q I (i σ H Q q)⟩
theorem PA.imp {X : Cx} {e : List Expr} {t t' : TA} (h : PA X e t) (i : ∀ σ H Q, t' σ H Q → t σ H Q) : PA X e t' := ⟨fun pos pins s σ H Q I q => h.run pos pins s σ H Q I (i σ H Q q)⟩
theorem PS.imp {X : Cx} {e : Stmt} {t t' : TS} (h : PS X e t) (i : ∀ D σ H, t' D σ H → t D σ H) : PS X e t' := ⟨fun pins s σ H D I q => h.run pins s σ H D I (i D σ H q)⟩
theorem PSs.imp {X : Cx} {e : List Stmt} {t t' : TS} (h : PSs X e t) (i : ∀ D σ H, t' D σ H → t D σ H) : PSs X e t' := ⟨fun pins s σ H D I q => h.run pins s σ H D I (i D σ H q)⟩

section
variable {K : PySem.W.Frag} {mg : Str → Option Value} {B : Bs} {S S' H H' : Hp} {Q : VK} {E : XK}
/-- the two ways of a bind: the first part runs, the second is asked behind it -/
theorem GoE.bind {f : PV → R PV} {r : R PV} (h : GoE K mg S H Q E (r.bind f)) : GoE K mg S H (fun v H1 => ∃ p S1, Ext S H S1 H1 ∧ Rep K mg S1 v p ∧ GoE K mg S1 H1 Q E (f p)) E r := by
  cases r with
  | ok p =>
    intro v S1 H1 e r
    refine ⟨p, S1, e, r, ?_⟩
    have h : GoE K mg S H Q E (f p) := h
    cases q : f p with
    | ok p' => rw [q] at h; exact fun v S2 H2 e2 r2 => h v S2 H2 (e.trans e2) r2
    | exc x => rw [q] at h; exact fun c d S2 H2 e2 r2 => h c d S2 H2 (e.trans e2) r2
    | bad => rw [q] at h; exact h
  | exc x => exact h
  | bad => exact h
theorem GoE.later (e : Ext S H S' H') {r : R PV} (h : GoE K mg S H Q E r) : GoE K mg S' H' Q E r := by
  cases r with
  | ok p => exact fun v S2 H2 e2 r2 => h v S2 H2 (e.trans e2) r2
  | exc x => exact fun c d S2 H2 e2 r2 => h c d S2 H2 (e.trans e2) r2
  | bad => exact h
theorem GoF.later (e : Ext S H S' H') {r : R Slot} (h : GoF K mg S H Q E r) : GoF K mg S' H' Q E r := by
  cases r with
  | ok t => exact fun v fp S2 H2 e2 q => h v fp S2 H2 (e.trans e2) (q.base fun a ha => e.h.free (q.foot a ha).2.1)
  | exc x => exact fun c d S2 H2 e2 r2 => h c d S2 H2 (e.trans e2) r2
  | bad => exact h
theorem GoT.later {Q : Bool → Hp → Prop} (e : Ext S H S' H') {r : R Bool} (h : GoT K mg S H Q E r) : GoT K mg S' H' Q E r := by
  cases r with
  | ok p => exact fun S2 H2 e2 => h S2 H2 (e.trans e2)
  | exc x => exact fun c d S2 H2 e2 r2 => h c d S2 H2 (e.trans e2) r2
  | bad => exact h
theorem GoA.later {Q : List V → Hp → Prop} (e : Ext S H S' H') {r : R (List PV)} (h : GoA K mg S H Q E r) : GoA K mg S' H' Q E r := by
  cases r with
  | ok p => exact fun v S2 H2 e2 r2 => h v S2 H2 (e.trans e2) r2
  | exc x => exact fun c d S2 H2 e2 r2 => h c d S2 H2 (e.trans e2) r2
  | bad => exact h
/-- a fresh value is a value -/
theorem GoF.of {r : R Slot} (h : GoE K mg S H Q E (r.bind toPV)) : GoF K mg S H Q E r := by
  cases r with
  | ok t =>
    intro v fp S' H' e q
    have h : GoE K mg S H Q E (toPV t) := h
    cases z : toPV t with
    | ok p =>
      rw [z] at h
      obtain ⟨S2, e1, e2, e3, r⟩ := q.still e.sh z
      refine h v S2 H' ⟨e.s.trans e1, e.h, e2, fun a o y => ?_⟩ r
      rcases e3 a o y with w | w
      · exact e.fr a o w
      · exact .inr (q.foot a w).2.1
    | exc x =>
      exfalso
      exact toPV_noexc z
    | bad => rw [z] at h; exact h.elim
  | exc x => exact h
  | bad => exact h
theorem GoF.lst {xs : List PV} {vs : List V} {p : Addr} (h : GoF K mg S H Q E (.ok (.ow xs))) (e : Same S H) (hp : H p = none) (r : Reps K mg S vs xs) : Q (.ref p) (upd H p (.lst vs)) :=
  h (.ref p) [p] S _ (Ext.own e hp) (.ow (e.free hp) hp upd_same r)
theorem GoF.dct {xs : List (Key × PV)} {kv : List (Key × V)} {p : Addr} (h : GoF K mg S H Q E (.ok (.od xs))) (e : Same S H) (hp : H p = none) (k : kv.map Prod.fst = xs.map Prod.fst) (r : Reps K mg S (kv.map Prod.snd) (xs.map Prod.snd)) : Q (.ref p) (upd H p (.dK kv)) :=
  h (.ref p) [p] S _ (Ext.own e hp) (.od (e.free hp) hp upd_same k r)
theorem GoF.val {p : PV} (h : GoF K mg S H Q E (.ok (.sh p))) : GoE K mg S H Q E (.ok p) := fun v S' H' e r => h v [] S' H' e (.sh r)
theorem GoF.ofV {r : R PV} (h : GoF K mg S H Q E (r.map Slot.sh)) : GoE K mg S H Q E r := by
  cases r with
  | ok p => exact fun v S' H' e r => h v [] S' H' e (.sh r)
  | exc x => exact h
  | bad => exact h
end
section
variable {X : Cx} {B : Bs} {W : WX} {e a b : Expr} {pos : Pos} {f g : Env → R PV}
theorem toE {f : Env → R Slot} (h : EF X B W e f) : EE X B W e (fun ρ => (f ρ).bind toPV) := PE.imp h fun σ H Q ⟨ρ, S, r, q⟩ => ⟨ρ, S, r, GoF.of q⟩
theorem toF (h : EE X B W e f) : EF X B W e (fun ρ => (f ρ).map Slot.sh) := PE.imp h fun σ H Q ⟨ρ, S, r, q⟩ => ⟨ρ, S, r, GoF.ofV q⟩
end

/-! ### names, constants -/
def gv (ρ : Env) (i : Nat) : R PV := match ρ[i]? with
  | some (.sh p) => .ok p
  | _ => .bad
def pVar (i : Nat) : Env → R PV := fun ρ => gv ρ i
def pC (p : PV) : Env → R PV := fun _ => .ok p
section
variable {X : Cx} {B : Bs} {W : WX} {e a b : Expr} {pos : Pos} {f g : Env → R PV}
theorem e_var (i : Nat) {x : Str} (hN : X.N[i]? = some x := by rfl) (hv : Vis X.env.scope x := by first | exact Or.inl rfl | exact Or.inr (Or.inl rfl) | exact Or.inr (Or.inr rfl)) (hd : (x == ("__debug__" : Str)) = false := by decide)
    (hcd : (x == ("__classdict__" : Str)) = false := by decide) : EE X B W (.Name x pos) (pVar i) := PE.imp (pe_var hN hv hd hcd) fun σ H Q ⟨ρ, S, r, q⟩ => by
  unfold pVar gv at q
  cases h : ρ[i]? with
  | none => rw [h] at q; exact q.elim
  | some s =>
    rw [h] at q
    cases s with
    | sh p =>
      obtain ⟨v, e, rp⟩ := r.slot h
      exact ⟨v, e, q v S H (Ext.refl r.sh) rp⟩
    | un => exact q.elim
    | ow _ => exact q.elim
    | od _ => exact q.elim
    | oo _ _ => exact q.elim
theorem e_int {i : Int} {j pos} : EE X B W (.Constant (.int i) j pos) (pC (.int i)) := PE.imp pe_int fun σ H Q ⟨ρ, S, r, q⟩ => q _ S H (Ext.refl r.sh) .int
theorem e_bl {b : Bool} {j pos} : EE X B W (.Constant (.bool b) j pos) (pC (.bl b)) := PE.imp pe_bl fun σ H Q ⟨ρ, S, r, q⟩ => q _ S H (Ext.refl r.sh) .bl
theorem e_non {j pos} : EE X B W (.Constant .none j pos) (pC .non) := PE.imp pe_non fun σ H Q ⟨ρ, S, r, q⟩ => q _ S H (Ext.refl r.sh) .non
theorem e_str {x : Str} {j pos} : EE X B W (.Constant (.str x) j pos) (pC (.str x)) := PE.imp pe_str fun σ H Q ⟨ρ, S, r, q⟩ => q _ S H (Ext.refl r.sh) .str
/-- a value of the text's top: it holds at every heap -/
structure TopV (K : PySem.W.Frag) (mg : Str → Option Value) (x : Str) (p : PV) : Prop where
  ex : ∃ v u, mg x = some u ∧ RelV v u ∧ ∀ S, Rep K mg S v p
theorem e_glob {x : Str} {p : PV} (t : TopV X.K X.mg x p) (hg : Gl X x := by rfl) (hd : (x == ("__debug__" : Str)) = false := by decide) : EE X B W (.Name x pos) (pC p) := by
  obtain ⟨v, u, hm, r, h⟩ := t.ex
  exact PE.imp (pe_glob hg hm r hd) fun σ H Q ⟨ρ, S, R, q⟩ => q _ S H (Ext.refl R.sh) (h S)
end
end Pu
set_option Elab.async false
set_option linter.all false
set_option maxRecDepth 100000
set_option maxHeartbeats 4000000
namespace Pu
open PySem PySem.Spec PyProof.Rows L2

/-! ### operators by values -/
/-- f, by pure values -/
def rP (K : PySem.W.Frag) (mg : Str → Option Value) (g : PV → PV → R PV) : R2 := fun x y H Q => ∃ S p q, Same S H ∧ Rep K mg S x p ∧ Rep K mg S y q ∧ GoE K mg S H Q (fun _ _ _ => False) (g p q)
def rPF (K : PySem.W.Frag) (mg : Str → Option Value) (g : PV → PV → R Slot) : R2 := fun x y H Q => ∃ S p q, Same S H ∧ Rep K mg S x p ∧ Rep K mg S y q ∧ GoF K mg S H Q (fun _ _ _ => False) (g p q)
abbrev BOp (X : Cx) (op : Value → Value → Sem Value) (g : PV → PV → R PV) : Prop := OpR X op (rP X.K X.mg g)
abbrev BOpF (X : Cx) (op : Value → Value → Sem Value) (g : PV → PV → R Slot) : Prop := OpR X op (rPF X.K X.mg g)
def nox {α : Type} (r : R α) : R α := match r with
  | .exc _ => .bad
  | r => r
@[simp] theorem nox_ok {α : Type} (a : α) : nox (R.ok a) = .ok a := rfl
@[simp] theorem nox_bad {α : Type} : nox (R.bad : R α) = .bad := rfl
@[simp] theorem nox_exc {α : Type} (x : PX) : nox (R.exc x : R α) = .bad := rfl
def pBin (g : PV → PV → R PV) (f1 f2 : Env → R PV) : Env → R PV := fun ρ => (f1 ρ).bind fun p => (f2 ρ).bind fun q => nox (g p q)
def pBinF (g : PV → PV → R Slot) (f1 f2 : Env → R PV) : Env → R Slot := fun ρ => (f1 ρ).bind fun p => (f2 ρ).bind fun q => nox (g p q)
section
variable {X : Cx} {B : Bs} {W : WX} {a b c : Expr} {pos : Pos} {f1 f2 f3 : Env → R PV}
theorem OpR.imp {f : Value → Value → Sem Value} {r r' : R2} (h : OpR X f r) (i : ∀ x y H Q, r' x y H Q → r x y H Q) : OpR X f r' := fun pins s σ H x y v u Q I rx ry q => h pins s σ H x y v u Q I rx ry (i _ _ _ _ q)
/-- two parts in a row, then a step by values -/
theorem two {r : R2} {K : PySem.W.Frag} {mg : Str → Option Value} {σ : L2.St} {H : Hp} {Q : VK} {ρ : Env} {S : Hp} {k : PV → PV → R PV} (Rl : Rel K mg B S σ H ρ)
    (h : GoE K mg S H Q (fun cls d H' => W cls d σ H') ((f1 ρ).bind fun p => (f2 ρ).bind fun q => k p q))
    (hk : ∀ x y p q S2 H2, Ext S H S2 H2 → Rep K mg S2 x p → Rep K mg S2 y q → GoE K mg S2 H2 Q (fun cls d H' => W cls d σ H') (k p q) → r x y H2 Q) : tOp r (eT K mg B W f1) (eT K mg B W f2) σ H Q := by
  refine ⟨ρ, S, Rl, ?_⟩
  cases e1 : f1 ρ with
  | ok p =>
    rw [e1] at h
    intro x S1 H1 x1 r1
    refine ⟨ρ, S1, Rl.ext x1, ?_⟩
    have h := GoE.later x1 (show GoE K mg S H Q _ ((f2 ρ).bind fun q => k p q) from h)
    cases e2 : f2 ρ with
    | ok q =>
      rw [e2] at h
      intro y S2 H2 x2 r2
      exact hk x y p q S2 H2 (x1.trans x2) (r1.mono x2.s) r2 (GoE.later x2 h)
    | exc z => rw [e2] at h; exact h
    | bad => rw [e2] at h; exact h
  | exc z => rw [e1] at h; exact h
  | bad => rw [e1] at h; exact h
theorem twoF {r : R2} {K : PySem.W.Frag} {mg : Str → Option Value} {σ : L2.St} {H : Hp} {Q : VK} {ρ : Env} {S : Hp} {k : PV → PV → R Slot} (Rl : Rel K mg B S σ H ρ)
    (h : GoF K mg S H Q (fun cls d H' => W cls d σ H') ((f1 ρ).bind fun p => (f2 ρ).bind fun q => k p q))
    (hk : ∀ x y p q S2 H2, Ext S H S2 H2 → Rep K mg S2 x p → Rep K mg S2 y q → GoF K mg S2 H2 Q (fun cls d H' => W cls d σ H') (k p q) → r x y H2 Q) : tOp r (eT K mg B W f1) (eT K mg B W f2) σ H Q := by
  refine ⟨ρ, S, Rl, ?_⟩
  cases e1 : f1 ρ with
  | ok p =>
    rw [e1] at h
    intro x S1 H1 x1 r1
    refine ⟨ρ, S1, Rl.ext x1, ?_⟩
    have h := GoF.later x1 (show GoF K mg S H Q _ ((f2 ρ).bind fun q => k p q) from h)
    cases e2 : f2 ρ with
    | ok q =>
      rw [e2] at h
      intro y S2 H2 x2 r2
      exact hk x y p q S2 H2 (x1.trans x2) (r1.mono x2.s) r2 (GoF.later x2 h)
    | exc z => rw [e2] at h; exact h
    | bad => rw [e2] at h; exact h
  | exc z => rw [e1] at h; exact h
  | bad => rw [e1] at h; exact h
theorem GoE.nox {K : PySem.W.Frag} {mg : Str → Option Value} {S H : Hp} {Q : VK} {E E' : XK} {r : R PV} (h : GoE K mg S H Q E (nox r)) : GoE K mg S H Q E' r := by
  cases r with
  | ok p => exact h
  | exc x => exact h.elim
  | bad => exact h
theorem GoF.nox {K : PySem.W.Frag} {mg : Str → Option Value} {S H : Hp} {Q : VK} {E E' : XK} {r : R Slot} (h : GoF K mg S H Q E (nox r)) : GoF K mg S H Q E' r := by
  cases r with
  | ok p => exact h
  | exc x => exact h.elim
  | bad => exact h
theorem e_bin {op : Operator} {g : PV → PV → R PV} (ho : BOp X (binaryOp op) g) (ha : EE X B W a f1) (hb : EE X B W b f2) : EE X B W (.BinOp a op b pos) (pBin g f1 f2) :=
  PE.imp (pe_op ho ha hb) fun σ H Q ⟨ρ, S, Rl, q⟩ => two Rl q fun x y p q S2 H2 e r1 r2 h => ⟨S2, p, q, e.sh, r1, r2, GoE.nox h⟩
theorem f_bin {op : Operator} {g : PV → PV → R Slot} (ho : BOpF X (binaryOp op) g) (ha : EE X B W a f1) (hb : EE X B W b f2) : EF X B W (.BinOp a op b pos) (pBinF g f1 f2) :=
  PE.imp (pe_op ho ha hb) fun σ H Q ⟨ρ, S, Rl, q⟩ => twoF Rl q fun x y p q S2 H2 e r1 r2 h => ⟨S2, p, q, e.sh, r1, r2, GoF.nox h⟩
theorem BOpF.to {f : Value → Value → Sem Value} {g : PV → PV → R Slot} (h : BOpF X f g) : BOp X f (fun p q => (g p q).bind toPV) := OpR.imp h fun x y H Q ⟨S, p, q, e, r1, r2, h⟩ => ⟨S, p, q, e, r1, r2, GoF.of h⟩
/-- a comparison -/
theorem e_cmp {op : CmpOp} {g : PV → PV → R PV} (ho : BOp X (compareOp op) g) (ha : EE X B W a f1) (hb : EE X B W b f2) (hm : behindInMarks op b = false := by first | exact nomark _ | rfl) : EE X B W (.Compare a [op] [b] pos) (pBin g f1 f2) :=
  PE.imp (pe_cmpR ho ha hb hm) fun σ H Q ⟨ρ, S, Rl, q⟩ => two Rl q fun x y p q S2 H2 e r1 r2 h => ⟨S2, p, q, e.sh, r1, r2, GoE.nox h⟩
/-- a value as a test: a bool -/
def asB : PV → R Bool
  | .bl b => .ok b
  | _ => .bad
@[simp] theorem asB_bl (b : Bool) : asB (.bl b) = .ok b := rfl
def pB (f : Env → R PV) : Env → R Bool := fun ρ => (f ρ).bind asB
theorem GoT.ofB {K : PySem.W.Frag} {mg : Str → Option Value} {S H : Hp} {Q : Bool → Hp → Prop} {E : XK} {r : R PV} (h : GoT K mg S H Q E (r.bind asB)) : GoE K mg S H (fun x H' => ∃ k, x = .bl k ∧ Q k H') E r := by
  cases r with
  | ok p =>
    cases p with
    | bl b =>
      intro v S' H' e r
      cases r
      exact ⟨b, rfl, h S' H' e⟩
    | _ => exact h.elim
  | exc x => exact h
  | bad => exact h
theorem t_val (h : EE X B W a f1) (he : ∀ whole, isTrue a X.env whole = (do let v ← whole; standAt a.pos; holding [v] (truthy v)) := by intro _; rfl) : ET X B W a (pB f1) :=
  PT.imp (pt_val h he) fun σ H Q ⟨ρ, S, Rl, q⟩ => ⟨ρ, S, Rl, GoT.ofB q⟩
theorem t_cmp {op : CmpOp} {g : PV → PV → R PV} (ho : BOp X (compareOp op) g) (ha : EE X B W a f1) (hb : EE X B W b f2) (hm : behindInMarks op b = false := by first | exact nomark _ | rfl) : ET X B W (.Compare a [op] [b] pos) (pB (pBin g f1 f2)) :=
  PT.imp (pt_cmpR ho ha hb hm) fun σ H Q ⟨ρ, S, Rl, q⟩ => two Rl (GoT.ofB q) fun x y p q S2 H2 e r1 r2 h => ⟨S2, p, q, e.sh, r1, r2, GoE.nox h⟩
/-! ### and, or, not -/
def pAndT (f g : Env → R Bool) : Env → R Bool := fun ρ => (f ρ).bind fun c => if c = true then g ρ else .ok false
def pOrT (f g : Env → R Bool) : Env → R Bool := fun ρ => (f ρ).bind fun c => if c = true then .ok true else g ρ
def pNotT (f : Env → R Bool) : Env → R Bool := fun ρ => (f ρ).bind fun c => .ok (!c)
variable {g1 g2 : Env → R Bool} {rest : List Expr}
theorem w_and1 (ha : ET X B W a g1) : EW X B W (.BoolOp .And [a] pos) g1 := pw_and1 ha
theorem w_or1 (ha : ET X B W a g1) : EW X B W (.BoolOp .Or [a] pos) g1 := pw_or1 ha
theorem GoT.split {K : PySem.W.Frag} {mg : Str → Option Value} {S H : Hp} {Q : Bool → Hp → Prop} {E : XK} {r : R Bool} {k : Bool → R Bool} (h : GoT K mg S H Q E (r.bind k)) : GoT K mg S H (fun c H1 => ∃ S1, Ext S H S1 H1 ∧ GoT K mg S1 H1 Q E (k c)) E r := by
  cases r with
  | ok c => exact fun S1 H1 e => ⟨S1, e, GoT.later e h⟩
  | exc x => exact h
  | bad => exact h
theorem w_and (ha : ET X B W a g1) (hb : EW X B W (.BoolOp .And (b :: rest) pos) g2) : EW X B W (.BoolOp .And (a :: b :: rest) pos) (pAndT g1 g2) :=
  PW.imp (pw_and ha hb) fun σ H Q ⟨ρ, S, Rl, q⟩ => ⟨ρ, S, Rl, by
    have q := GoT.split q
    cases e : g1 ρ with
    | ok c =>
      rw [e] at q
      intro S1 H1 x1
      obtain ⟨S2, x2, q⟩ := q S1 H1 x1
      cases c with
      | true => exact ⟨ρ, S2, Rl.ext x2, q⟩
      | false => exact q S2 H1 (Ext.refl x2.sh)
    | exc x => rw [e] at q; exact q
    | bad => rw [e] at q; exact q⟩
theorem w_or (ha : ET X B W a g1) (hb : EW X B W (.BoolOp .Or (b :: rest) pos) g2) : EW X B W (.BoolOp .Or (a :: b :: rest) pos) (pOrT g1 g2) :=
  PW.imp (pw_or ha hb) fun σ H Q ⟨ρ, S, Rl, q⟩ => ⟨ρ, S, Rl, by
    have q := GoT.split q
    cases e : g1 ρ with
    | ok c =>
      rw [e] at q
      intro S1 H1 x1
      obtain ⟨S2, x2, q⟩ := q S1 H1 x1
      cases c with
      | false => exact ⟨ρ, S2, Rl.ext x2, q⟩
      | true => exact q S2 H1 (Ext.refl x2.sh)
    | exc x => rw [e] at q; exact q
    | bad => rw [e] at q; exact q⟩
theorem t_w (h : EW X B W a g1) : ET X B W a g1 := PW.pt h
theorem t_not (h : ET X B W a g1) : ET X B W (.UnaryOp .Not a pos) (pNotT g1) :=
  PT.imp (pt_not h) fun σ H Q ⟨ρ, S, Rl, q⟩ => ⟨ρ, S, Rl, by
    have q := GoT.split q
    cases e : g1 ρ with
    | ok c =>
      rw [e] at q
      intro S1 H1 x1
      obtain ⟨S2, x2, q⟩ := q S1 H1 x1
      exact q S2 H1 (Ext.refl x2.sh)
    | exc x => rw [e] at q; exact q
    | bad => rw [e] at q; exact q⟩
/-! ### the same as values -/
def pAnd (f g : Env → R PV) : Env → R PV := fun ρ => (f ρ).bind fun p => match p with
  | .bl true => g ρ
  | .bl false => .ok (.bl false)
  | _ => .bad
def pOr (f g : Env → R PV) : Env → R PV := fun ρ => (f ρ).bind fun p => match p with
  | .bl true => .ok (.bl true)
  | .bl false => g ρ
  | _ => .bad
def pNot (f : Env → R PV) : Env → R PV := fun ρ => (f ρ).bind fun p => match p with
  | .bl b => .ok (.bl (!b))
  | _ => .bad
def pIf (c : Env → R Bool) (f g : Env → R PV) : Env → R PV := fun ρ => (c ρ).bind fun b => if b = true then f ρ else g ρ
theorem GoT.to {K : PySem.W.Frag} {mg : Str → Option Value} {S H : Hp} {Q : VK} {E : XK} {r : R Bool} {k : Bool → R PV} (h : GoE K mg S H Q E (r.bind k)) : GoT K mg S H (fun c H1 => ∃ S1, Ext S H S1 H1 ∧ GoE K mg S1 H1 Q E (k c)) E r := by
  cases r with
  | ok c => exact fun S1 H1 e => ⟨S1, e, GoE.later e h⟩
  | exc x => exact h
  | bad => exact h
/-- the first part has run -/
theorem GoE.at {K : PySem.W.Frag} {mg : Str → Option Value} {S H : Hp} {Q : VK} {E : XK} {Q' : VK} {r : R PV} {k : PV → R PV} (h : GoE K mg S H Q E (r.bind k)) (hk : ∀ v p S1 H1, Ext S H S1 H1 → Rep K mg S1 v p → GoE K mg S1 H1 Q E (k p) → Q' v H1) : GoE K mg S H Q' E r := by
  cases r with
  | ok c => exact fun v S1 H1 e rp => hk v c S1 H1 e rp (GoE.later e h)
  | exc x => exact h
  | bad => exact h
theorem GoE.atF {K : PySem.W.Frag} {mg : Str → Option Value} {S H : Hp} {Q : VK} {E : XK} {Q' : VK} {r : R PV} {k : PV → R Slot} (h : GoF K mg S H Q E (r.bind k)) (hk : ∀ v p S1 H1, Ext S H S1 H1 → Rep K mg S1 v p → GoF K mg S1 H1 Q E (k p) → Q' v H1) : GoE K mg S H Q' E r := by
  cases r with
  | ok c => exact fun v S1 H1 e rp => hk v c S1 H1 e rp (GoF.later e h)
  | exc x => exact h
  | bad => exact h
theorem GoE.atT {K : PySem.W.Frag} {mg : Str → Option Value} {S H : Hp} {Q : Bool → Hp → Prop} {E : XK} {Q' : VK} {r : R PV} {k : PV → R Bool} (h : GoT K mg S H Q E (r.bind k)) (hk : ∀ v p S1 H1, Ext S H S1 H1 → Rep K mg S1 v p → GoT K mg S1 H1 Q E (k p) → Q' v H1) : GoE K mg S H Q' E r := by
  cases r with
  | ok c => exact fun v S1 H1 e rp => hk v c S1 H1 e rp (GoT.later e h)
  | exc x => exact h
  | bad => exact h
theorem GoA.at {K : PySem.W.Frag} {mg : Str → Option Value} {S H : Hp} {Q : VK} {E : XK} {Q' : List V → Hp → Prop} {r : R (List PV)} {k : List PV → R PV} (h : GoE K mg S H Q E (r.bind k)) (hk : ∀ vs ps S1 H1, Ext S H S1 H1 → Reps K mg S1 vs ps → GoE K mg S1 H1 Q E (k ps) → Q' vs H1) : GoA K mg S H Q' E r := by
  cases r with
  | ok c => exact fun v S1 H1 e rp => hk v c S1 H1 e rp (GoE.later e h)
  | exc x => exact h
  | bad => exact h
theorem GoA.atF {K : PySem.W.Frag} {mg : Str → Option Value} {S H : Hp} {Q : VK} {E : XK} {Q' : List V → Hp → Prop} {r : R (List PV)} {k : List PV → R Slot} (h : GoF K mg S H Q E (r.bind k)) (hk : ∀ vs ps S1 H1, Ext S H S1 H1 → Reps K mg S1 vs ps → GoF K mg S1 H1 Q E (k ps) → Q' vs H1) : GoA K mg S H Q' E r := by
  cases r with
  | ok c => exact fun v S1 H1 e rp => hk v c S1 H1 e rp (GoF.later e h)
  | exc x => exact h
  | bad => exact h
theorem GoA.atA {K : PySem.W.Frag} {mg : Str → Option Value} {S H : Hp} {Q : List V → Hp → Prop} {E : XK} {Q' : VK} {r : R PV} {k : PV → R (List PV)} (h : GoA K mg S H Q E (r.bind k)) (hk : ∀ v p S1 H1, Ext S H S1 H1 → Rep K mg S1 v p → GoA K mg S1 H1 Q E (k p) → Q' v H1) : GoE K mg S H Q' E r := by
  cases r with
  | ok c => exact fun v S1 H1 e rp => hk v c S1 H1 e rp (GoA.later e h)
  | exc x => exact h
  | bad => exact h
theorem GoE.done {K : PySem.W.Frag} {mg : Str → Option Value} {S H : Hp} {Q : VK} {E : XK} {p : PV} {v : V} (h : GoE K mg S H Q E (.ok p)) (e : Same S H) (r : Rep K mg S v p) : Q v H := h v S H (Ext.refl e) r
theorem e_one {op} (h : EE X B W a f1) : EE X B W (.BoolOp op [a] pos) f1 := pe_one h
theorem e_and (ha : EE X B W a f1) (hb : EE X B W (.BoolOp .And (b :: rest) pos) f2) : EE X B W (.BoolOp .And (a :: b :: rest) pos) (pAnd f1 f2) :=
  PE.imp (pe_and ha hb) fun σ H Q ⟨ρ, S, Rl, q⟩ => ⟨ρ, S, Rl, GoE.at q fun v p S1 H1 e r h => by
    cases r with
    | @bl c =>
      cases c with
      | true => exact ⟨true, rfl, ρ, S1, Rl.ext e, h⟩
      | false => exact ⟨false, rfl, GoE.done h e.sh .bl⟩
    | _ => exact h.elim⟩
theorem e_or (ha : EE X B W a f1) (hb : EE X B W (.BoolOp .Or (b :: rest) pos) f2) : EE X B W (.BoolOp .Or (a :: b :: rest) pos) (pOr f1 f2) :=
  PE.imp (pe_or ha hb) fun σ H Q ⟨ρ, S, Rl, q⟩ => ⟨ρ, S, Rl, GoE.at q fun v p S1 H1 e r h => by
    cases r with
    | @bl c =>
      cases c with
      | false => exact ⟨false, rfl, ρ, S1, Rl.ext e, h⟩
      | true => exact ⟨true, rfl, GoE.done h e.sh .bl⟩
    | _ => exact h.elim⟩
theorem e_not (ha : EE X B W a f1) : EE X B W (.UnaryOp .Not a pos) (pNot f1) :=
  PE.imp (pe_not ha) fun σ H Q ⟨ρ, S, Rl, q⟩ => ⟨ρ, S, Rl, GoE.at q fun v p S1 H1 e r h => by
    cases r with
    | @bl c => exact ⟨c, rfl, GoE.done h e.sh .bl⟩
    | _ => exact h.elim⟩
theorem e_if {c : Expr} (hc : ET X B W c g1) (ha : EE X B W a f1) (hb : EE X B W b f2) : EE X B W (.IfExp c a b pos) (pIf g1 f1 f2) :=
  PE.imp (pe_ifExp hc ha hb) fun σ H Q ⟨ρ, S, Rl, q⟩ => ⟨ρ, S, Rl, by
    have q := GoT.to q
    cases e : g1 ρ with
    | ok c =>
      rw [e] at q
      intro S1 H1 x1
      obtain ⟨S2, x2, q⟩ := q S1 H1 x1
      cases c with
      | true => exact ⟨ρ, S2, Rl.ext x2, q⟩
      | false => exact ⟨ρ, S2, Rl.ext x2, q⟩
    | exc x => rw [e] at q; exact q
    | bad => rw [e] at q; exact q⟩
/-- a value's truth -/
def pTru : PV → R Bool
  | .non => .ok false
  | .bl b => .ok b
  | .int i => .ok (i != 0)
  | .str x => if x.length ≤ sizeLine then .ok ((x.length : Int) != 0) else .bad
  | .lst xs => .ok (!xs.isEmpty)
  | .fls xs => .ok (!xs.isEmpty)
  | .tup xs => .ok (!xs.isEmpty)
  | .dic xs => .ok (!xs.isEmpty)
  | .obj _ _ => .bad
theorem Reps.isEmpty {K : PySem.W.Frag} {mg : Str → Option Value} {S : Hp} {vs : List V} {ps : List PV} (r : Reps K mg S vs ps) : vs.isEmpty = ps.isEmpty := by cases r <;> rfl
theorem tru_of {K : PySem.W.Frag} {mg : Str → Option Value} {S H : Hp} {v : V} {p : PV} {b : Bool} (e : Same S H) (r : Rep K mg S v p) (h : pTru p = .ok b) : TruV K v H b := by
  cases r with
  | non => cases h; rfl
  | bl => cases h; rfl
  | int => cases h; rfl
  | @str x =>
    have h : (if x.length ≤ sizeLine then R.ok ((x.length : Int) != 0) else .bad) = .ok b := h
    split at h
    · cases h; exact ⟨by assumption, rfl⟩
    · cases h
  | lst h1 r => cases h; exact .inl ⟨_, SqL.of (e _ _ h1), by rw [r.isEmpty]⟩
  | fls h1 r => cases h; exact .inl ⟨_, e.seq h1, by rw [r.isEmpty]⟩
  | tup h1 r => cases h; exact .inr (.inl ⟨_, seqT e h1, by rw [r.isEmpty]⟩)
  | obj _ _ _ _ => cases h
  | @dic a kv kp h1 k r =>
    cases h
    refine .inr (.inr ⟨_, e _ _ h1, ?_⟩)
    have l := congrArg List.length k
    rw [List.length_map, List.length_map] at l
    cases kv <;> cases kp <;> first | rfl | (simp at l)
def pTr (f : Env → R PV) : Env → R Bool := fun ρ => (f ρ).bind pTru
theorem t_tru (h : EE X B W a f1) (he : ∀ whole, isTrue a X.env whole = (do let v ← whole; standAt a.pos; holding [v] (truthy v)) := by intro _; rfl) : ET X B W a (pTr f1) :=
  PT.imp (pt_truth h he) fun σ H Q ⟨ρ, S, Rl, q⟩ => ⟨ρ, S, Rl, GoE.atT q fun v p S1 H1 e r h => by
    cases z : pTru p with
    | ok b => rw [z] at h; exact ⟨b, tru_of e.sh r z, h S1 H1 (Ext.refl e.sh)⟩
    | exc x =>
      exfalso
      cases p <;> simp [pTru] at z
      split at z <;> cases z
    | bad => rw [z] at h; exact h.elim⟩
end
end Pu
set_option Elab.async false
set_option linter.all false
set_option maxRecDepth 100000
set_option maxHeartbeats 4000000
namespace Pu
open PySem PySem.Spec PyProof.Rows L2

/-! ### argument lists, displays -/
def pNil : Env → R (List PV) := fun _ => .ok []
def pCons (f : Env → R PV) (g : Env → R (List PV)) : Env → R (List PV) := fun ρ => (f ρ).bind fun p => (g ρ).bind fun ps => .ok (p :: ps)
section
variable {X : Cx} {B : Bs} {W : WX} {e a b : Expr} {es : List Expr} {pos : Pos} {f f1 f2 : Env → R PV} {fs : Env → R (List PV)}
theorem a_nil : EA X B W [] pNil := PA.imp pa_nil fun σ H Q ⟨ρ, S, Rl, q⟩ => q [] S H (Ext.refl Rl.sh) .nil
theorem a_cons (ha : EE X B W e f) (hr : EA X B W es fs) (hs : starEach (e :: es) X.env = (false, eval e X.env) :: starEach es X.env := by rfl) : EA X B W (e :: es) (pCons f fs) :=
  PA.imp (pa_cons ha hr hs) fun σ H Q ⟨ρ, S, Rl, q⟩ => ⟨ρ, S, Rl, GoA.atA q fun v p S1 H1 e r h => ⟨ρ, S1, Rl.ext e, by
    cases z : fs ρ with
    | ok ps =>
      rw [z] at h
      exact fun vs S2 H2 e2 r2 => h (v :: vs) S2 H2 e2 (.cons (r.mono e2.s) r2)
    | exc x => rw [z] at h; exact h
    | bad => rw [z] at h; exact h⟩⟩
def mkTup (ps : List PV) : R PV := if ps.length ≤ sizeLine then .ok (.tup ps) else .bad
def mkLst (ps : List PV) : R Slot := if ps.length ≤ sizeLine then .ok (.ow ps) else .bad
def pTup (fs : Env → R (List PV)) : Env → R PV := fun ρ => (fs ρ).bind mkTup
def pLstF (fs : Env → R (List PV)) : Env → R Slot := fun ρ => (fs ρ).bind mkLst
theorem e_tup {x1} (h : EA X B W es fs) : EE X B W (.Tuple es x1 pos) (pTup fs) :=
  PE.imp (pe_tup h) fun σ H Q ⟨ρ, S, Rl, q⟩ => ⟨ρ, S, Rl, GoA.at q fun vs ps S1 H1 e r h => by
    unfold mkTup at h
    split at h
    · rename_i hl
      exact ⟨by rw [r.length]; exact hl, fun p hp => h (.ref p) _ _ (Ext.new e.sh hp) (.tup (SqT.of upd_same) (r.mono (same_new (e.sh.free hp))))⟩
    · exact h.elim⟩
theorem f_lst (h : EA X B W es fs) : EF X B W (.List es pos) (pLstF fs) :=
  PE.imp (pe_lst h) fun σ H Q ⟨ρ, S, Rl, q⟩ => ⟨ρ, S, Rl, GoA.atF q fun vs ps S1 H1 e r h => by
    unfold mkLst at h
    split at h
    · rename_i hl
      exact ⟨by rw [r.length]; exact hl, fun p hp => GoF.lst h e.sh hp r⟩
    · exact h.elim⟩

/-! ### calls of built-ins -/
def rC (K : PySem.W.Frag) (mg : Str → Option Value) (g : List PV → R PV) : List V → Hp → VK → Prop := fun vs H Q => ∃ S ps, Same S H ∧ Reps K mg S vs ps ∧ GoE K mg S H Q (fun _ _ _ => False) (g ps)
def rCF (K : PySem.W.Frag) (mg : Str → Option Value) (g : List PV → R Slot) : List V → Hp → VK → Prop := fun vs H Q => ∃ S ps, Same S H ∧ Reps K mg S vs ps ∧ GoF K mg S H Q (fun _ _ _ => False) (g ps)
abbrev CB (X : Cx) (f : Value) (g : List PV → R PV) : Prop := CallR X f (rC X.K X.mg g)
abbrev CBF (X : Cx) (f : Value) (g : List PV → R Slot) : Prop := CallR X f (rCF X.K X.mg g)
theorem CallR.imp {f : Value} {r r' : List V → Hp → VK → Prop} (h : CallR X f r) (i : ∀ x H Q, r' x H Q → r x H Q) : CallR X f r' := fun pins s σ H xs us Q I rx q => h pins s σ H xs us Q I rx (i _ _ _ q)
theorem CBF.to {f : Value} {g : List PV → R Slot} (h : CBF X f g) : CB X f (fun ps => (g ps).bind toPV) := CallR.imp h fun vs H Q ⟨S, ps, e, r, q⟩ => ⟨S, ps, e, r, GoF.of q⟩
def pCal (g : List PV → R PV) (fs : Env → R (List PV)) : Env → R PV := fun ρ => (fs ρ).bind fun ps => nox (g ps)
def pCalF (g : List PV → R Slot) (fs : Env → R (List PV)) : Env → R Slot := fun ρ => (fs ρ).bind fun ps => nox (g ps)
variable {x id : Str} {T : String} {p : Pos}
theorem e_blt {id : String} {g : List PV → R PV} (hc : CB X (.builtin id) g) (hm : X.mg x = none) (hv : bootBuiltins x = some (.builtin id)) (ha : EA X B W (e :: es) fs) (hg : Gl X x := by rfl) (hn : x ≠ "__name__" := by decide) (hdb : (x == ("__debug__" : Str)) = false := by decide)
    (he : starEach (e :: es) X.env = (false, eval e X.env) :: starEach es X.env := by rfl) (hpl : (backTo pos (starEach es X.env)).any (·.1) = false := by rfl) : EE X B W (.Call (.Name x p) (e :: es) [] pos) (pCal g fs) :=
  PE.imp (pe_callB hc hg hm hv ha hn hdb he hpl) fun σ H Q ⟨ρ, S, Rl, q⟩ => ⟨ρ, S, Rl, GoA.at q fun vs ps S1 H1 e r h => ⟨S1, ps, e.sh, r, GoE.nox h⟩⟩
theorem e_ty {T : String} {g : List PV → R PV} (hc : CB X (.type T) g) (hm : X.mg x = none) (hv : bootBuiltins x = some (.type T)) (ha : EA X B W (e :: es) fs) (hg : Gl X x := by rfl) (hn : x ≠ "__name__" := by decide) (hdb : (x == ("__debug__" : Str)) = false := by decide)
    (he : starEach (e :: es) X.env = (false, eval e X.env) :: starEach es X.env := by rfl) (hpl : (backTo pos (starEach es X.env)).any (·.1) = false := by rfl) : EE X B W (.Call (.Name x p) (e :: es) [] pos) (pCal g fs) :=
  PE.imp (pe_callTy hc hg hm hv ha hn hdb he hpl) fun σ H Q ⟨ρ, S, Rl, q⟩ => ⟨ρ, S, Rl, GoA.at q fun vs ps S1 H1 e r h => ⟨S1, ps, e.sh, r, GoE.nox h⟩⟩
theorem f_blt {id : String} {g : List PV → R Slot} (hc : CBF X (.builtin id) g) (hm : X.mg x = none) (hv : bootBuiltins x = some (.builtin id)) (ha : EA X B W (e :: es) fs) (hg : Gl X x := by rfl) (hn : x ≠ "__name__" := by decide) (hdb : (x == ("__debug__" : Str)) = false := by decide)
    (he : starEach (e :: es) X.env = (false, eval e X.env) :: starEach es X.env := by rfl) (hpl : (backTo pos (starEach es X.env)).any (·.1) = false := by rfl) : EF X B W (.Call (.Name x p) (e :: es) [] pos) (pCalF g fs) :=
  PE.imp (pe_callB hc hg hm hv ha hn hdb he hpl) fun σ H Q ⟨ρ, S, Rl, q⟩ => ⟨ρ, S, Rl, GoA.atF q fun vs ps S1 H1 e r h => ⟨S1, ps, e.sh, r, GoF.nox h⟩⟩
theorem f_ty {T : String} {g : List PV → R Slot} (hc : CBF X (.type T) g) (hm : X.mg x = none) (hv : bootBuiltins x = some (.type T)) (ha : EA X B W (e :: es) fs) (hg : Gl X x := by rfl) (hn : x ≠ "__name__" := by decide) (hdb : (x == ("__debug__" : Str)) = false := by decide)
    (he : starEach (e :: es) X.env = (false, eval e X.env) :: starEach es X.env := by rfl) (hpl : (backTo pos (starEach es X.env)).any (·.1) = false := by rfl) : EF X B W (.Call (.Name x p) (e :: es) [] pos) (pCalF g fs) :=
  PE.imp (pe_callTy hc hg hm hv ha hn hdb he hpl) fun σ H Q ⟨ρ, S, Rl, q⟩ => ⟨ρ, S, Rl, GoA.atF q fun vs ps S1 H1 e r h => ⟨S1, ps, e.sh, r, GoF.nox h⟩⟩

/-! ### calls of defs -/
/-- a def's promise by its pure function -/
def spP (K : PySem.W.Frag) (mg : Str → Option Value) (m : List PV → R PV) : Sp := fun vs H Q E => ∃ S ps, Same S H ∧ Reps K mg S vs ps ∧ GoE K mg S H Q E (m ps)
structure Callee (P : Program) (w : World) (K : PySem.W.Frag) (mg : Str → Option Value) (base : Heap) (k : Nat) (x : Str) (m : List PV → R PV) : Prop where
  ex : ∃ f fd ps, FnOk P w K mg base (L2.CX P w) k f fd ps (spP K mg m) ∧ mg x = some (.ref f) ∧ PySem.W.keepIn K (.ref f) = true ∧ Binds K fd ps []
theorem Callee.mono {P : Program} {w : World} {K : PySem.W.Frag} {mg : Str → Option Value} {base : Heap} {j k : Nat} {x : Str} {m : List PV → R PV} (c : Callee P w K mg base j x m) (h : j ≤ k) : Callee P w K mg base k x m := by
  obtain ⟨f, fd, ps, F, r⟩ := c.ex
  exact ⟨f, fd, ps, F.mono h, r⟩
/-- what leaves a call is taken -/
def Px (X : Cx) (W : WX) : Prop := ∀ σ, PassesAt (L2.CX X.prog X.w) X σ (WE W σ)
theorem px_of (t : Takes X W) : Px X W := fun σ => passAt t σ
theorem px_no : Px X (fun _ _ _ _ => False) := fun _ _ _ _ _ _ _ h => by
  obtain ⟨_, _, _, _, _, _, _, _, _, _, _, _, z⟩ := h
  exact z.elim
def pFn (m : List PV → R PV) (fs : Env → R (List PV)) : Env → R PV := fun ρ => (fs ρ).bind m
theorem e_call {k : Nat} {m : List PV → R PV} (c : Callee X.prog X.w X.K X.mg X.base k x m) (hr : Room k X.A) (px : Px X W) (ha : EA X B W (e :: es) fs) (hg : Gl X x := by rfl) (hdb : (x == ("__debug__" : Str)) = false := by decide)
    (he : starEach (e :: es) X.env = (false, eval e X.env) :: starEach es X.env := by rfl) (hpl : (backTo pos (starEach es X.env)).any (·.1) = false := by rfl) : EE X B W (.Call (.Name x p) (e :: es) [] pos) (pFn m fs) := by
  obtain ⟨f, fd, ps, F, hm, kp, b⟩ := c.ex
  exact PE.imp (pe_callS (E := WE W) F hr hg hm kp b px ha hdb he hpl) fun σ H Q ⟨ρ, S, Rl, q⟩ => ⟨ρ, S, Rl, GoA.at q fun vs ps S1 H1 e r h => ⟨S1, ps, e.sh, r, h⟩⟩
end

/-! ### subscripts, slices -/
def rSl (K : PySem.W.Frag) (mg : Str → Option Value) (g : PV → Option Int → Option Int → R Slot) : V → Option Int → Option Int → Hp → VK → Prop := fun x lo hi H Q => ∃ S p, Same S H ∧ Rep K mg S x p ∧ GoF K mg S H Q (fun _ _ _ => False) (g p lo hi)
def pIxV : PV → PV → R PV
  | .lst xs, .int i => match atI xs i with | some p => .ok p | none => .bad
  | .fls xs, .int i => match atI xs i with | some p => .ok p | none => .bad
  | .tup xs, .int i => match atI xs i with | some p => .ok p | none => .bad
  | .str z, .int i => if z.length ≤ sizeLine then (match atI z.cps.toList i with | some c => .ok (.str ⟨#[c]⟩) | none => .bad) else .bad
  | _, _ => .bad
def cutP {α : Type} (xs : List α) (lo hi : Option Int) : List α := (xs.drop (HT.sIx xs.length 0 lo)).take (HT.sIx xs.length xs.length hi - HT.sIx xs.length 0 lo)
section
variable {K : PySem.W.Frag} {mg : Str → Option Value} {S : Hp} {vs : List V} {ps : List PV}
theorem Reps.at (r : Reps K mg S vs ps) {i : Int} {p : PV} (h : atI ps i = some p) : ∃ v, atI vs i = some v ∧ Rep K mg S v p := by
  unfold atI at h ⊢
  rw [r.length]
  cases e : ixN ps.length i with
  | none => rw [e] at h; cases h
  | some j =>
    rw [e] at h
    obtain ⟨v, h1, h2⟩ := r.get (i := j) (p := p) h
    exact ⟨v, h1, h2⟩
theorem Reps.cut (r : Reps K mg S vs ps) (lo hi : Option Int) : Reps K mg S (cutV vs lo hi) (cutP ps lo hi) := by
  unfold cutV cutP
  rw [r.length]
  exact (r.drop _).take _
end
section
variable {X : Cx} {B : Bs} {W : WX} {e a b : Expr} {es : List Expr} {pos : Pos} {f f1 f2 : Env → R PV} {fs : Env → R (List PV)}
theorem IxR.imp {r r' : R2} (h : IxR X r) (i : ∀ x y H Q, r' x y H Q → r x y H Q) : IxR X r' := fun value slice pins s σ H x y v u Q I rx ry q hs => h value slice pins s σ H x y v u Q I rx ry (i _ _ _ _ q) hs
theorem ix_p : IxR X (rP X.K X.mg pIxV) := IxR.imp ix_seq fun x y H Q ⟨S, p, q, e, r1, r2, h⟩ => by
  have go : ∀ {xs : List PV} {i : Int} {vs : List V}, Reps X.K X.mg S vs xs → GoE X.K X.mg S H Q (fun _ _ _ => False) (match atI xs i with | some p => .ok p | none => .bad) → ∃ v, atI vs i = some v ∧ Q v H := fun {xs i vs} r h => by
    cases z : atI xs i with
    | none => rw [z] at h; exact h.elim
    | some p =>
      rw [z] at h
      obtain ⟨v, h1, h2⟩ := r.at z
      exact ⟨v, h1, GoE.done h e h2⟩
  cases r1 with
  | lst h1 r =>
    cases r2 with
    | int => obtain ⟨v, z1, z2⟩ := go r h; exact .inl ⟨_, _, _, v, rfl, rfl, SqL.of (e _ _ h1), z1, z2⟩
    | _ => exact h.elim
  | fls h1 r =>
    cases r2 with
    | int => obtain ⟨v, z1, z2⟩ := go r h; exact .inl ⟨_, _, _, v, rfl, rfl, e.seq h1, z1, z2⟩
    | _ => exact h.elim
  | tup h1 r =>
    cases r2 with
    | int => obtain ⟨v, z1, z2⟩ := go r h; exact .inr (.inl ⟨_, _, _, v, rfl, rfl, seqT e h1, z1, z2⟩)
    | _ => exact h.elim
  | @str z =>
    cases r2 with
    | @int i =>
      have h : GoE X.K X.mg S H Q (fun _ _ _ => False) (if z.length ≤ sizeLine then (match atI z.cps.toList i with | some c => .ok (.str ⟨#[c]⟩) | none => .bad) else .bad) := h
      split at h
      · rename_i hl
        cases q : atI z.cps.toList i with
        | none => rw [q] at h; exact h.elim
        | some c => rw [q] at h; exact .inr (.inr ⟨z, i, c, rfl, rfl, hl, q, GoE.done h e .str⟩)
      · exact h.elim
    | _ => exact h.elim
  | _ => cases r2 <;> exact h.elim
theorem e_ix (ha : EE X B W a f1) (hb : EE X B W b f2) (hs : PlainIx b := by intro _ _; rfl) : EE X B W (.Subscript a b pos) (pBin pIxV f1 f2) :=
  PE.imp (pe_ix ix_p ha hb hs) fun σ H Q ⟨ρ, S, Rl, q⟩ => two Rl q fun x y p q S2 H2 e r1 r2 h => ⟨S2, p, q, e.sh, r1, r2, GoE.nox h⟩
/-- an item of a list that a name owns -/
def pIxO (i : Nat) (f : Env → R PV) : Env → R PV := fun ρ => match ρ[i]? with
  | some (.ow xs) => (f ρ).bind fun q => nox (pIxV (.lst xs) q)
  | some (.sh p) => (f ρ).bind fun q => nox (pIxV p q)
  | _ => .bad
theorem e_ixo (i : Nat) {x : Str} {p : Pos} (hb : EE X B W b f2) (hN : X.N[i]? = some x := by rfl) (hv : Vis X.env.scope x := by first | exact Or.inl rfl | exact Or.inr (Or.inl rfl) | exact Or.inr (Or.inr rfl)) (hd : (x == ("__debug__" : Str)) = false := by decide)
    (hcd : (x == ("__classdict__" : Str)) = false := by decide) (hs : PlainIx b := by intro _ _; rfl) : EE X B W (.Subscript (.Name x p) b pos) (pIxO i f2) :=
  ⟨fun pins s σ H Q I ⟨ρ, S, Rl, q⟩ => by
    unfold pIxO at q
    cases h : ρ[i]? with
    | none => rw [h] at q; exact q.elim
    | some t =>
      rw [h] at q
      cases t with
      | un => exact q.elim
      | od _ => exact q.elim
      | oo _ _ => exact q.elim

      | sh p =>
        obtain ⟨v, ev, rv⟩ := Rl.slot h
        refine (pe_ix ix_p (pe_var hN hv hd hcd) hb hs).run pins s σ H Q I ⟨v, ev, ρ, S, Rl, GoE.at q fun y q S2 H2 e r2 h => ⟨S2, p, q, e.sh, rv.mono e.s, r2, GoE.nox h⟩⟩
      | ow xs =>
        obtain ⟨a, vs, ev, n1, n2, ha, rv⟩ := Rl.ows h
        refine (pe_ix ix_list (pe_var hN hv hd hcd) hb hs).run pins s σ H Q I ⟨_, ev, ρ, S, Rl, GoE.at q fun y q S2 H2 e r2 h => ?_⟩
        cases r2 with
        | @int k =>
          have h : GoE X.K X.mg S2 H2 Q _ (nox (match atI xs k with | some p => .ok p | none => .bad)) := h
          cases z : atI xs k with
          | none => rw [z] at h; exact h.elim
          | some p =>
            rw [z] at h
            obtain ⟨v, h1, h2⟩ := (rv.mono e.s).at z
            exact ⟨a, vs, k, v, rfl, rfl, SqL.of (e.h _ _ ha), h1, GoE.done h e.sh h2⟩
        | _ => exact h.elim⟩

def pPart (f : Env → R PV) : Env → R (Option Int) := fun ρ => (f ρ).bind fun p => match p with
  | .int i => .ok (some i)
  | _ => .bad
def pNoPart : Env → R (Option Int) := fun _ => .ok none
def oT (K : PySem.W.Frag) (mg : Str → Option Value) (B : Bs) (W : WX) (f : Env → R (Option Int)) : TO := fun σ H Q => ∃ ρ S, Rel K mg B S σ H ρ ∧ match f ρ with
  | .ok o => ∀ S' H', Ext S H S' H' → Q o H'
  | .exc x => ∀ cls d S' H', Ext S H S' H' → RepX K mg S' cls d x → W cls d σ H'
  | .bad => False
abbrev EO (X : Cx) (B : Bs) (W : WX) (e : Option Expr) (f : Env → R (Option Int)) : Prop := PO X e (oT X.K X.mg B W f)
theorem o_none : EO X B W none pNoPart := ⟨fun pins s σ H Q I ⟨ρ, S, Rl, q⟩ => po_none.run pins s σ H Q I (q S H (Ext.refl Rl.sh))⟩
theorem o_some (h : EE X B W e f) : EO X B W (some e) (pPart f) := ⟨fun pins s σ H Q I ⟨ρ, S, Rl, q⟩ => (po_some h).run pins s σ H Q I ⟨ρ, S, Rl, by
    unfold pPart at q
    cases z : f ρ with
    | ok p =>
      rw [z] at q
      intro v S' H' e r
      cases r with
      | @int i => exact ⟨i, rfl, q S' H' e⟩
      | _ => exact q.elim
    | exc x => rw [z] at q; exact q
    | bad => rw [z] at q; exact q⟩⟩
def pSlV : PV → Option Int → Option Int → R Slot
  | .lst xs, lo, hi => .ok (.ow (cutP xs lo hi))
  | .fls xs, lo, hi => .ok (.ow (cutP xs lo hi))
  | .tup xs, lo, hi =>   .ok (.sh (.tup (cutP xs lo hi)))
  | _, _, _ => .bad
theorem cut_whole {α : Type} {xs : List α} {lo hi : Option Int} (h : HT.sIx xs.length 0 lo = 0 ∧ HT.sIx xs.length xs.length hi = xs.length) : cutP xs lo hi = xs := by
  unfold cutP
  rw [h.1, h.2]; simp
theorem sl_p : SlR X (rSl X.K X.mg pSlV) := by
  intro pins s σ H x v vl vu lo hi sl Q I rx hs pl pu h
  obtain ⟨S, p, e, r1, h⟩ := h
  cases r1 with
  | lst h1 r => exact sl_list pins s σ H _ _ _ _ _ _ _ Q I rx hs pl pu ⟨_, _, rfl, SqL.of (e _ _ h1), fun p hp => GoF.lst h e hp (r.cut lo hi)⟩
  | fls h1 r => exact sl_list pins s σ H _ _ _ _ _ _ _ Q I rx hs pl pu ⟨_, _, rfl, e.seq h1, fun p hp => GoF.lst h e hp (r.cut lo hi)⟩
  | @tup a vs ps h1 r =>
    refine sl_tupA pins s σ H _ _ _ _ _ _ _ Q I rx hs pl pu ⟨_, _, rfl, seqT e h1, fun hw => ?_, fun _ p hp => ?_⟩
    · rw [r.length] at hw
      have h : ∀ v S' H', Ext S H S' H' → Rep X.K X.mg S' v (.tup (cutP ps lo hi)) → Q v H' := GoF.val h
      rw [cut_whole hw] at h
      exact h _ S H (Ext.refl e) (.tup h1 r)
    · exact GoF.val h (.ref p) _ _ (Ext.new e hp) (.tup (SqT.of upd_same) ((r.cut lo hi).mono (same_new (e.free hp))))
  | _ => exact h.elim
def pSli (f : Env → R PV) (l u : Env → R (Option Int)) : Env → R Slot := fun ρ => (f ρ).bind fun p => (l ρ).bind fun lo => (u ρ).bind fun hi => nox (pSlV p lo hi)
theorem f_sl {lo hi : Option Expr} {p2 : Pos} {l u : Env → R (Option Int)} (he : EE X B W e f) (hl : EO X B W lo l) (hu : EO X B W hi u) : EF X B W (.Subscript e (.Slice lo hi none p2) pos) (pSli f l u) :=
  PE.imp (pe_slice sl_p he hl hu) fun σ H Q ⟨ρ, S, Rl, q⟩ => ⟨ρ, S, Rl, GoE.atF q fun v p S1 H1 e1 r h => ⟨ρ, S1, Rl.ext e1, by
    cases z : l ρ with
    | ok lo =>
      rw [z] at h
      intro S2 H2 e2
      have h := GoF.later e2 (show GoF X.K X.mg S1 H1 Q _ ((u ρ).bind fun hi => nox (pSlV p lo hi)) from h)
      refine ⟨ρ, S2, (Rl.ext e1).ext e2, ?_⟩
      cases z2 : u ρ with
      | ok hi =>
        rw [z2] at h
        intro S3 H3 e3
        exact ⟨S3, p, e3.sh, (r.mono e2.s).mono e3.s, GoF.nox (GoF.later e3 h)⟩
      | exc x => rw [z2] at h; exact h
      | bad => rw [z2] at h; exact h
    | exc x => rw [z] at h; exact h
    | bad => rw [z] at h; exact h⟩⟩
/-- a slice of a list that a name owns -/
def pSliO (i : Nat) (l u : Env → R (Option Int)) : Env → R Slot := fun ρ => match ρ[i]? with
  | some (.ow xs) => (l ρ).bind fun lo => (u ρ).bind fun hi => .ok (.ow (cutP xs lo hi))
  | some (.sh p) => (l ρ).bind fun lo => (u ρ).bind fun hi => nox (pSlV p lo hi)
  | _ => .bad
theorem f_slo (i : Nat) {x : Str} {p : Pos} {lo hi : Option Expr} {p2 : Pos} {l u : Env → R (Option Int)} (hl : EO X B W lo l) (hu : EO X B W hi u) (hN : X.N[i]? = some x := by rfl) (hv : Vis X.env.scope x := by first | exact Or.inl rfl | exact Or.inr (Or.inl rfl) | exact Or.inr (Or.inr rfl)) (hd : (x == ("__debug__" : Str)) = false := by decide)
    (hcd : (x == ("__classdict__" : Str)) = false := by decide) : EF X B W (.Subscript (.Name x p) (.Slice lo hi none p2) pos) (pSliO i l u) :=
  ⟨fun pins s σ H Q I ⟨ρ, S, Rl, q⟩ => by
    unfold pSliO at q
    have parts : ∀ {k : Option Int → Option Int → R Slot} {r : V → Option Int → Option Int → Hp → VK → Prop} {v : V}, GoF X.K X.mg S H Q (fun cls d H' => W cls d σ H') ((l ρ).bind fun lo => (u ρ).bind fun hi => k lo hi) →
        (∀ lo hi S2 H2, Ext S H S2 H2 → GoF X.K X.mg S2 H2 Q (fun cls d H' => W cls d σ H') (k lo hi) → r v lo hi H2 Q) → oT X.K X.mg B W l σ H fun lo H1 => oT X.K X.mg B W u σ H1 fun hi H2 => r v lo hi H2 Q := fun {k r v} q hk => ⟨ρ, S, Rl, by
      cases z : l ρ with
      | ok lo =>
        rw [z] at q
        intro S2 H2 e2
        have h := GoF.later e2 (show GoF X.K X.mg S H Q _ ((u ρ).bind fun hi => k lo hi) from q)
        refine ⟨ρ, S2, Rl.ext e2, ?_⟩
        cases z2 : u ρ with
        | ok hi =>
          rw [z2] at h
          intro S3 H3 e3
          exact hk lo hi S3 H3 (e2.trans e3) (GoF.later e3 h)
        | exc x => rw [z2] at h; exact h
        | bad => rw [z2] at h; exact h
      | exc x => rw [z] at q; exact q
      | bad => rw [z] at q; exact q⟩
    cases h : ρ[i]? with
    | none => rw [h] at q; exact q.elim
    | some t =>
      rw [h] at q
      cases t with
      | un => exact q.elim
      | od _ => exact q.elim
      | oo _ _ => exact q.elim

      | sh p =>
        obtain ⟨v, ev, rv⟩ := Rl.slot h
        exact (pe_slice sl_p (pe_var hN hv hd hcd) hl hu).run pins s σ H Q I ⟨v, ev, parts (r := rSl X.K X.mg pSlV) q fun lo hi S2 H2 e h => ⟨S2, p, e.sh, rv.mono e.s, GoF.nox h⟩⟩
      | ow xs =>
        obtain ⟨a, vs, ev, n1, n2, ha, rv⟩ := Rl.ows h
        exact (pe_slice sl_list (pe_var hN hv hd hcd) hl hu).run pins s σ H Q I ⟨_, ev, parts (r := rSlL X.K) q fun lo hi S2 H2 e h => ⟨a, vs, rfl, SqL.of (e.h _ _ ha), fun p hp => GoF.lst h e.sh hp ((rv.mono e.s).cut lo hi)⟩⟩⟩
end
end Pu
set_option Elab.async false
set_option linter.all false
set_option maxRecDepth 100000
set_option maxHeartbeats 4000000
namespace Pu
open PySem PySem.Spec PyProof.Rows L2

/-! ### statements -/
inductive O where
  | nx (ρ : Env) | rt (p : PV) (ρ : Env) | bk (ρ : Env) | ct (ρ : Env) | exc (x : PX) (ρ : Env) | bad
/-- what is wanted behind a statement by its outcome -/
def GoS (K : PySem.W.Frag) (mg : Str → Option Value) (B : Bs) (S : Hp) (D : Ends) (W : WX) : O → Prop
  | .nx ρ => ∀ σ H S', Same S S' → Rel K mg B S' σ H ρ → D.nx σ H
  | .bk ρ => ∀ σ H S', Same S S' → Rel K mg B S' σ H ρ → D.bk σ H
  | .ct ρ => ∀ σ H S', Same S S' → Rel K mg B S' σ H ρ → D.ct σ H
  | .rt p ρ => ∀ v σ H S', Same S S' → Rel K mg B S' σ H ρ → Rep K mg S' v p → D.rt v H
  | .exc x ρ => ∀ cls d σ H S', Same S S' → Rel K mg B S' σ H ρ → RepX K mg S' cls d x → W cls d σ H
  | .bad => False
def sT (K : PySem.W.Frag) (mg : Str → Option Value) (B : Bs) (W : WX) (f : Env → O) : TS := fun D σ H => ∃ ρ S, Rel K mg B S σ H ρ ∧ GoS K mg B S D W (f ρ)
abbrev ES (X : Cx) (B : Bs) (W : WX) (s : Stmt) (f : Env → O) : Prop := PS X s (sT X.K X.mg B W f)
abbrev EB (X : Cx) (B : Bs) (W : WX) (s : List Stmt) (f : Env → O) : Prop := PSs X s (sT X.K X.mg B W f)
theorem GoS.later {K : PySem.W.Frag} {mg : Str → Option Value} {B : Bs} {S S' : Hp} {D : Ends} {W : WX} {o : O} (e : Same S S') (h : GoS K mg B S D W o) : GoS K mg B S' D W o := by
  cases o with
  | nx ρ => exact fun σ H S2 e2 => h σ H S2 (e.trans e2)
  | bk ρ => exact fun σ H S2 e2 => h σ H S2 (e.trans e2)
  | ct ρ => exact fun σ H S2 e2 => h σ H S2 (e.trans e2)
  | rt p ρ => exact fun v σ H S2 e2 => h v σ H S2 (e.trans e2)
  | exc x ρ => exact fun c d σ H S2 e2 => h c d σ H S2 (e.trans e2)
  | bad => exact h

def PV.atom : PV → Bool
  | .non => true | .bl _ => true | .int _ => true | .str _ => true
  | _ => false
def Slot.atom : Slot → Bool
  | .sh p => p.atom
  | _ => false
@[simp] theorem atom_non : PV.atom .non = true := rfl
@[simp] theorem atom_bl (b : Bool) : PV.atom (.bl b) = true := rfl
@[simp] theorem atom_int (b : Int) : PV.atom (.int b) = true := rfl
@[simp] theorem atom_str (b : Str) : PV.atom (.str b) = true := rfl
@[simp] theorem atom_lst (b : List PV) : PV.atom (.lst b) = false := rfl
@[simp] theorem atom_tup (b : List PV) : PV.atom (.tup b) = false := rfl
@[simp] theorem atom_fls (b : List PV) : PV.atom (.fls b) = false := rfl
@[simp] theorem atom_obj (c : Str) (b) : PV.atom (.obj c b) = false := rfl
@[simp] theorem atom_dic (b) : PV.atom (.dic b) = false := rfl
@[simp] theorem satom_sh (p : PV) : Slot.atom (.sh p) = p.atom := rfl
@[simp] theorem satom_ow (b) : Slot.atom (.ow b) = false := rfl
@[simp] theorem satom_od (b) : Slot.atom (.od b) = false := rfl
@[simp] theorem satom_oo (c b) : Slot.atom (.oo c b) = false := rfl
theorem Rep.atom {K : PySem.W.Frag} {mg : Str → Option Value} {S S' : Hp} {v : V} {p : PV} (r : Rep K mg S v p) (h : p.atom = true) : Rep K mg S' v p := by
  cases r with
  | non => exact .non
  | bl => exact .bl
  | int => exact .int
  | str => exact .str
  | _ => cases h
/-- behind an expression that saw the slots fr frozen -/
def back (fr : List Nat) (t : Slot) (ρ : Env) : Env := if t.atom = true then ρ else frzs fr ρ
@[simp] theorem back_nil (t : Slot) (ρ : Env) : back [] t ρ = ρ := by unfold back; split <;> rfl
@[simp] theorem frzs_nil (ρ : Env) : frzs [] ρ = ρ := rfl
def sSet (i : Nat) (fr : List Nat) (f : Env → R Slot) : Env → O := fun ρ => match f (frzs fr ρ) with
  | .ok t => .nx ((back fr t ρ).set i t)
  | .exc x => .exc x (frzs fr ρ)
  | .bad => .bad
def sExpr (fr : List Nat) (f : Env → R PV) : Env → O := fun ρ => match f (frzs fr ρ) with
  | .ok _ => .nx ρ
  | .exc x => .exc x (frzs fr ρ)
  | .bad => .bad
def sRet (fr : List Nat) (f : Env → R PV) : Env → O := fun ρ => match f (frzs fr ρ) with
  | .ok p => .rt p (back fr (.sh p) ρ)
  | .exc x => .exc x (frzs fr ρ)
  | .bad => .bad
def sRetN : Env → O := fun ρ => .rt .non ρ
def sIf (fr : List Nat) (c : Env → R Bool) (f g : Env → O) : Env → O := fun ρ => match c (frzs fr ρ) with
  | .ok true => f ρ
  | .ok false => g ρ
  | .exc x => .exc x (frzs fr ρ)
  | .bad => .bad
def sNx : Env → O := .nx
def sSeq (f g : Env → O) : Env → O := fun ρ => match f ρ with
  | .nx ρ' => g ρ'
  | o => o
section
variable {K : PySem.W.Frag} {mg : Str → Option Value} {B : Bs} {S S1 S' H H' : Hp} {σ : L2.St} {ρ : Env}
theorem SlotOk.atomS {H0 H0' : Hp} {v : V} {t : Slot} {fp : List Addr} (q : SlotOk K mg S1 H0 H (some v) t fp) (h : t.atom = true) : fp = [] ∧ SlotOk K mg S H0' H' (some v) t [] := by
  cases q with
  | sh r => exact ⟨rfl, .sh (r.atom h)⟩
  | _ => cases h
/-- a fresh value goes to a slot -/
theorem RelF.putNew {fp : Nat → List Addr} (R : RelF K mg B S σ H ρ fp) (e : Ext S H S' H') (i : Nat) {v : V} {t : Slot} {g : List Addr} (q : SlotOk K mg S' H H' (some v) t g) (h0 : B.me = none ∨ i ≠ 0) : RelF K mg B S' (σ.set i (some v)) H' (ρ.set i t) (upF fp i g) := by
  refine (R.ext e).put (q.base fun a ha => R.h0.free (q.foot a ha).2.1) (fun b hb j hj hl hm => ?_) h0
  obtain ⟨_, _, o, z⟩ := R.foot hl hm
  rw [(q.foot b hb).2.1] at z; cases z
theorem Rel.putNew (R : Rel K mg B S σ H ρ) (e : Ext S H S' H') (i : Nat) {v : V} {t : Slot} {g : List Addr} (q : SlotOk K mg S' H H' (some v) t g) (h0 : B.me = none ∨ i ≠ 0) : Rel K mg B S' (σ.set i (some v)) H' (ρ.set i t) :=
  let ⟨_, r⟩ := R
  ⟨_, r.putNew e i q h0⟩
theorem Rel.back (R : Rel K mg B S σ H ρ) {fr : List Nat} (R1 : Rel K mg B S1 σ H (Pu.frzs fr ρ)) (s1 : Same S S1) (e : Ext S1 H S' H') {v : V} {t : Slot} {g : List Addr} (q : SlotOk K mg S' H H' (some v) t g) :
    ∃ S2, Same S S2 ∧ SlotOk K mg S2 H H' (some v) t g ∧ Rel K mg B S2 σ H' (Pu.back fr t ρ) ∧ ∀ i, (B.me = none ∨ i ≠ 0) → Rel K mg B S2 (σ.set i (some v)) H' ((Pu.back fr t ρ).set i t) := by
  unfold Pu.back
  by_cases h : t.atom = true
  · rw [if_pos h]
    obtain ⟨rfl, q2⟩ := q.atomS (S := S) (H0' := H) (H' := H') h
    exact ⟨S, Same.refl _, q2, R.grow e.h, fun i h0 => R.putNew (Ext.grow R.sh e.h) i q2 h0⟩
  · rw [if_neg h]
    exact ⟨S', s1.trans e.s, q, R1.ext e, fun i h0 => R1.putNew e i q h0⟩
end
section
variable {X : Cx} {B : Bs} {W : WX} {e a b : Expr} {es : List Expr} {pos pos' : Pos} {st : Stmt} {rest : List Stmt} {f : Env → R PV} {g h : Env → O}
theorem s_set (i : Nat) {x : Str} (fr : List Nat) {f : Env → R Slot} (he : EF X B W e f) (h0 : B.me = none ∨ i ≠ 0) (hN : X.N.Nodup) (hi : X.N[i]? = some x := by rfl) (hx : Loc X.env.scope x := by first | exact Or.inl rfl | exact Or.inr rfl) (hs : swapsWith e (some (.Name x pos')) pos.line X.env = pure false := by rfl)
    (hf : X.fn x = true ∨ X.env.scope.names.lookup x = some .local := by first | exact .inl rfl | exact .inr rfl | assumption) : ES X B W (.Assign [.Name x pos'] e pos) (sSet i fr f) :=
  PS.imp (ps_set hN hi hx he hs hf) fun D σ H ⟨ρ, S, Rl, q⟩ => by
    obtain ⟨S1, s1, R1⟩ := Rl.frzs fr
    refine ⟨frzs fr ρ, S1, R1, ?_⟩
    unfold sSet at q
    cases z : f (frzs fr ρ) with
    | ok t =>
      rw [z] at q
      intro v fp S' H' e sl
      obtain ⟨S2, s2, _, _, R2⟩ := Rl.back R1 s1 e sl
      exact q _ _ S2 s2 (R2 i h0)
    | exc x =>
      rw [z] at q
      exact fun cls d S' H' e r => q cls d σ H' S' (s1.trans e.s) (R1.ext e) r
    | bad => rw [z] at q; exact q
theorem s_expr (fr : List Nat) (he : EE X B W e f) (hs : swapsWith e none pos.line X.env = pure false := by rfl) : ES X B W (.Expr e pos) (sExpr fr f) :=
  PS.imp (ps_expr he hs) fun D σ H ⟨ρ, S, Rl, q⟩ => by
    obtain ⟨S1, s1, R1⟩ := Rl.frzs fr
    refine ⟨frzs fr ρ, S1, R1, ?_⟩
    unfold sExpr at q
    cases z : f (frzs fr ρ) with
    | ok t =>
      rw [z] at q
      exact fun v S' H' e r => q σ H' S (Same.refl _) (Rl.grow e.h)
    | exc x =>
      rw [z] at q
      exact fun cls d S' H' e r => q cls d σ H' S' (s1.trans e.s) (R1.ext e) r
    | bad => rw [z] at q; exact q
theorem s_ret (fr : List Nat) (he : EE X B W e f) : ES X B W (.Return (some e) pos) (sRet fr f) :=
  PS.imp (ps_ret he) fun D σ H ⟨ρ, S, Rl, q⟩ => by
    obtain ⟨S1, s1, R1⟩ := Rl.frzs fr
    refine ⟨frzs fr ρ, S1, R1, ?_⟩
    unfold sRet at q
    cases z : f (frzs fr ρ) with
    | ok t =>
      rw [z] at q
      intro v S' H' e r
      obtain ⟨S2, s2, q2, R2, _⟩ := Rl.back R1 s1 e (SlotOk.sh (H0 := H) (H := H') r)
      cases q2 with
      | sh r2 => exact q v σ H' S2 s2 R2 r2
    | exc x =>
      rw [z] at q
      exact fun cls d S' H' e r => q cls d σ H' S' (s1.trans e.s) (R1.ext e) r
    | bad => rw [z] at q; exact q
theorem s_retN : ES X B W (.Return none pos) sRetN := PS.imp ps_retN fun D σ H ⟨ρ, S, Rl, q⟩ => q .non σ H S (Same.refl _) Rl .non
theorem s_pass : ES X B W (.Pass pos) sNx := PS.imp ps_pass fun D σ H ⟨ρ, S, Rl, q⟩ => q σ H S (Same.refl _) Rl
theorem s_doc {x : Str} {j} : ES X B W (.Expr (.Constant (.str x) j pos) pos') sNx := PS.imp ps_doc fun D σ H ⟨ρ, S, Rl, q⟩ => q σ H S (Same.refl _) Rl
def sBk : Env → O := .bk
def sCt : Env → O := .ct
theorem s_break : ES X B W (.Break pos) sBk := PS.imp ps_break fun D σ H ⟨ρ, S, Rl, q⟩ => q σ H S (Same.refl _) Rl
theorem s_continue : ES X B W (.Continue pos) sCt := PS.imp ps_continue fun D σ H ⟨ρ, S, Rl, q⟩ => q σ H S (Same.refl _) Rl
theorem b_nil : EB X B W [] sNx := PSs.imp pss_nil fun D σ H ⟨ρ, S, Rl, q⟩ => q σ H S (Same.refl _) Rl
theorem b_cons (h1 : ES X B W st g) (h2 : EB X B W rest h) : EB X B W (st :: rest) (sSeq g h) :=
  PSs.imp (pss_cons h1 h2) fun D σ H ⟨ρ, S, Rl, q⟩ => by
    refine ⟨ρ, S, Rl, ?_⟩
    unfold sSeq at q
    cases z : g ρ with
    | nx ρ' =>
      rw [z] at q
      exact fun σ' H' S' s R' => ⟨ρ', S', R', GoS.later s q⟩
    | _ => rw [z] at q; exact q
theorem b_one (h1 : ES X B W st g) : EB X B W [st] g := pss_one h1
theorem s_if (fr : List Nat) {c : Expr} {tc : Env → R Bool} {as bs : List Stmt} (hc : ET X B W c tc) (ha : EB X B W as g) (hb : EB X B W bs h) : ES X B W (.If c as bs pos) (sIf fr tc g h) :=
  PS.imp (ps_if hc ha hb) fun D σ H ⟨ρ, S, Rl, q⟩ => by
    obtain ⟨S1, s1, R1⟩ := Rl.frzs fr
    refine ⟨frzs fr ρ, S1, R1, ?_⟩
    unfold sIf at q
    cases z : tc (frzs fr ρ) with
    | ok c =>
      rw [z] at q
      intro S' H' e
      cases c with
      | true => exact ⟨ρ, S, Rl.grow e.h, q⟩
      | false => exact ⟨ρ, S, Rl.grow e.h, q⟩
    | exc x =>
      rw [z] at q
      exact fun cls d S' H' e r => q cls d σ H' S' (s1.trans e.s) (R1.ext e) r
    | bad => rw [z] at q; exact q

/-! ### owned lists changed -/
theorem frz1_ow {i j : Nat} {ρ : Env} {xs : List PV} (h : (frz1 j ρ)[i]? = some (.ow xs)) : ρ[i]? = some (.ow xs) := by
  unfold frz1 at h
  split at h
  · by_cases z : j = i
    · subst z
      rename_i ys hy
      rw [List.getElem?_set_self (List.getElem?_eq_some_iff.mp hy).1] at h; cases h
    · rw [List.getElem?_set_ne z] at h; exact h
  · by_cases z : j = i
    · subst z
      rename_i ys hy
      rw [List.getElem?_set_self (List.getElem?_eq_some_iff.mp hy).1] at h; cases h
    · rw [List.getElem?_set_ne z] at h; exact h
  · exact h
theorem frzs_ow {i : Nat} {xs : List PV} : ∀ {fr : List Nat} {ρ : Env}, (frzs fr ρ)[i]? = some (.ow xs) → ρ[i]? = some (.ow xs)
  | [], _, h => h
  | _ :: _, _, h => frz1_ow (frzs_ow h)
theorem back_ow {i : Nat} {xs : List PV} {fr : List Nat} {ρ : Env} {t : Slot} (h : (frzs fr ρ)[i]? = some (.ow xs)) : (back fr t ρ)[i]? = some (.ow xs) := by
  unfold back
  split
  · exact frzs_ow h
  · exact h
def sApp (i : Nat) (fr : List Nat) (f : Env → R PV) : Env → O := fun ρ => match (frzs fr ρ)[i]? with
  | some (.ow xs) => (match f (frzs fr ρ) with
    | .ok p => if xs.length < sizeLine then .nx ((back fr (.sh p) ρ).set i (.ow (xs ++ [p]))) else .bad
    | .exc x => .exc x (frzs fr ρ)
    | .bad => .bad)
  | _ => .bad
theorem s_app (i : Nat) {x : Str} {p ap : Pos} (fr : List Nat) (he : EE X B W e f) (hN : X.N[i]? = some x := by rfl) (hv : Vis X.env.scope x := by first | exact Or.inl rfl | exact Or.inr (Or.inl rfl) | exact Or.inr (Or.inr rfl)) (hd : (x == ("__debug__" : Str)) = false := by decide)
    (hcd : (x == ("__classdict__" : Str)) = false := by decide)
    (hst : starEach [e] X.env = (false, eval e X.env) :: starEach [] X.env := by rfl) (hpl : (backTo pos (starEach [] X.env)).any (·.1) = false := by rfl)
    (hb : PE X (.Call (.Attribute (.Name x p) "append" ap) [e] [] pos) (tBM X.K "list" rAppend (tVar i) (tCons (eT X.K X.mg B W f) tNil)))
    (hs : swapsWith (.Call (.Attribute (.Name x p) "append" ap) [e] [] pos) none pos'.line X.env = pure false := by rfl) : ES X B W (.Expr (.Call (.Attribute (.Name x p) "append" ap) [e] [] pos) pos') (sApp i fr f) :=
  PS.imp (ps_expr hb hs) fun D σ H ⟨ρ, S, Rl, q⟩ => by
    obtain ⟨S1, s1, R1⟩ := Rl.frzs fr
    unfold sApp at q
    cases z : (frzs fr ρ)[i]? with
    | none => rw [z] at q; exact q.elim
    | some t =>
      cases t with
      | ow xs =>
        obtain ⟨a, vs, ea, n1, n2, ha, rv⟩ := R1.ows z
        refine ⟨_, ea, .inl ⟨rfl, _, SqL.of ha⟩, frzs fr ρ, S1, R1, ?_⟩
        rw [z] at q
        cases z2 : f (frzs fr ρ) with
        | ok p =>
          rw [z2] at q
          have q : GoS X.K X.mg B S D W (if xs.length < sizeLine then .nx ((back fr (.sh p) ρ).set i (.ow (xs ++ [p]))) else .bad) := q
          split at q
          · rename_i hl
            intro v S' H' e r
            refine ⟨a, vs, v, rfl, rfl, e.h _ _ ha, by rw [rv.length]; exact hl, ?_⟩
            obtain ⟨S2, s2, q2, R2, _⟩ := Rl.back R1 s1 e (SlotOk.sh (H0 := H) (H := H') r)
            have zb := back_ow (t := .sh p) z
            obtain ⟨a', vs', ea', _, _, ha', rv'⟩ := R2.ows zb
            rw [ea] at ea'; cases ea'
            rw [e.h _ _ ha] at ha'; cases ha'
            cases q2 with
            | sh r2 => exact q σ _ S2 s2 (R2.mutOw zb ea (rv'.append (.one r2)))
          · exact q.elim
        | exc x =>
          rw [z2] at q
          exact fun cls d S' H' e r => q cls d σ H' S' (s1.trans e.s) (R1.ext e) r
        | bad => rw [z2] at q; exact q
      | _ => rw [z] at q; exact q.elim
end
end Pu
set_option Elab.async false
set_option linter.all false
set_option maxRecDepth 100000
set_option maxHeartbeats 4000000
namespace Pu
open PySem PySem.Spec PyProof.Rows L2

/-! ### what is walked -/
/-- an iterator that gives the pure items ps while S' stands -/
def WalkP (K : PySem.W.Frag) (mg : Str → Option Value) (S' : Hp) (J : It) (ps : List PV) : Prop := ∀ S2 H, Same S' S2 → Same S2 H → (∀ i, i < ps.length → J.go i H) ∧ J.stop ps.length H ∧
  ∀ i x H'' p, ps[i]? = some p → J.yld i H x H'' → ∃ S3, Ext S2 H S3 H'' ∧ Rep K mg S3 x p
def GoI (K : PySem.W.Frag) (mg : Str → Option Value) (S H : Hp) (Q : It → Hp → Prop) (E : XK) : R (List PV) → Prop
  | .ok ps => ∀ J S' H', Ext S H S' H' → WalkP K mg S' J ps → Q J H'
  | .exc x => ∀ cls d S' H', Ext S H S' H' → RepX K mg S' cls d x → E cls d H'
  | .bad => False
def iT (K : PySem.W.Frag) (mg : Str → Option Value) (B : Bs) (W : WX) (f : Env → R (List PV)) : TI := fun σ H Q => ∃ ρ S, Rel K mg B S σ H ρ ∧ GoI K mg S H Q (fun cls d H' => W cls d σ H') (f ρ)
abbrev EI (X : Cx) (B : Bs) (W : WX) (tg iter : Expr) (f : Env → R (List PV)) : Prop := PI X tg iter (iT X.K X.mg B W f)
theorem PI.imp {X : Cx} {tg iter : Expr} {t t' : TI} (h : PI X tg iter t) (i : ∀ σ H Q, t' σ H Q → t σ H Q) : PI X tg iter t' := ⟨fun pins s σ H R I q => h.run pins s σ H R I (i σ H R q)⟩
section
variable {K : PySem.W.Frag} {mg : Str → Option Value} {S S' H H' : Hp} {Q : It → Hp → Prop} {E : XK}
theorem GoI.later (e : Ext S H S' H') {r : R (List PV)} (h : GoI K mg S H Q E r) : GoI K mg S' H' Q E r := by
  cases r with
  | ok t => exact fun J S2 H2 e2 q => h J S2 H2 (e.trans e2) q
  | exc x => exact fun c d S2 H2 e2 r2 => h c d S2 H2 (e.trans e2) r2
  | bad => exact h
theorem GoE.atI {r : R PV} {k : PV → R (List PV)} {Q' : VK} (h : GoI K mg S H Q E (r.bind k)) (hk : ∀ v p S1 H1, Ext S H S1 H1 → Rep K mg S1 v p → GoI K mg S1 H1 Q E (k p) → Q' v H1) : GoE K mg S H Q' E r := by
  cases r with
  | ok c => exact fun v S1 H1 e rp => hk v c S1 H1 e rp (GoI.later e h)
  | exc x => exact h
  | bad => exact h
theorem GoA.atI {r : R (List PV)} {k : List PV → R (List PV)} {Q' : List V → Hp → Prop} (h : GoI K mg S H Q E (r.bind k)) (hk : ∀ v p S1 H1, Ext S H S1 H1 → Reps K mg S1 v p → GoI K mg S1 H1 Q E (k p) → Q' v H1) : GoA K mg S H Q' E r := by
  cases r with
  | ok c => exact fun v S1 H1 e rp => hk v c S1 H1 e rp (GoI.later e h)
  | exc x => exact h
  | bad => exact h
theorem walkL {a : Addr} {vs : List V} {ps : List PV} (h : SqL K S' a vs) (r : Reps K mg S' vs ps) : WalkP K mg S' (Itl K a) ps := fun S2 H e1 e2 => by
  have q : SqL K H a vs := (e1.trans e2).seq h
  have hl := r.length
  refine ⟨fun i hi => ⟨vs, vs[i]'(by omega), q, by simp [show i < vs.length by omega]⟩, ⟨vs, q, by omega⟩, fun i x H'' p hp y => ?_⟩
  obtain ⟨rfl, y⟩ := y
  obtain ⟨v, h1, h2⟩ := r.get hp
  have := y vs q
  rw [h1] at this; cases this
  exact ⟨S2, Ext.refl e2, h2.mono e1⟩
theorem walkT {a : Addr} {vs : List V} {ps : List PV} (h : SqT K S' a vs) (r : Reps K mg S' vs ps) : WalkP K mg S' (Itt K a) ps := fun S2 H e1 e2 => by
  have q : SqT K H a vs := seqT (e1.trans e2) h
  have hl := r.length
  refine ⟨fun i hi => ⟨vs, vs[i]'(by omega), q, by simp [show i < vs.length by omega]⟩, ⟨vs, q, by omega⟩, fun i x H'' p hp y => ?_⟩
  obtain ⟨rfl, y⟩ := y
  obtain ⟨v, h1, h2⟩ := r.get hp
  have := y vs q
  rw [h1] at this; cases this
  exact ⟨S2, Ext.refl e2, h2.mono e1⟩
def rangeP (lo : Int) (n : Nat) : List PV := (List.range n).map fun i => .int (lo + (i : Nat))
theorem walkR {lo : Int} {n : Nat} : WalkP K mg S' (Itr lo n) (rangeP lo n) := fun S2 H e1 e2 => by
  have hl : (rangeP lo n).length = n := by simp [rangeP]
  refine ⟨fun i hi => by rw [hl] at hi; exact hi, by rw [hl]; exact Nat.le_refl n, fun i x H'' p hp y => ?_⟩
  obtain ⟨rfl, rfl⟩ := y
  have hi : i < n := by rw [← hl]; exact (List.getElem?_eq_some_iff.mp hp).1
  have : (rangeP lo n)[i]? = some (.int (lo + (i : Nat))) := by simp [rangeP, hi]
  rw [this] at hp; cases hp
  exact ⟨S2, Ext.refl e2, .int⟩
/-- pairs made anew at each turn -/
def zipP (ps qs : List PV) : List PV := (ps.zip qs).map fun pq => .tup [pq.1, pq.2]
theorem zipP_get {ps qs : List PV} {i : Nat} {p : PV} (h : (zipP ps qs)[i]? = some p) : ∃ a b, ps[i]? = some a ∧ qs[i]? = some b ∧ p = .tup [a, b] := by
  unfold zipP at h
  rw [List.getElem?_map] at h
  cases z : (ps.zip qs)[i]? with
  | none => rw [z] at h; cases h
  | some ab =>
    rw [z] at h; cases h
    obtain ⟨a, b⟩ := ab
    rw [List.getElem?_zip_eq_some] at z
    exact ⟨a, b, z.1, z.2, rfl⟩
theorem walkZ {a b : Addr} {vs ws : List V} {ps qs : List PV} (h1 : SqL K S' a vs) (h2 : SqL K S' b ws) (r1 : Reps K mg S' vs ps) (r2 : Reps K mg S' ws qs) : WalkP K mg S' (Itz K a b) (zipP ps qs) := fun S2 H e1 e2 => by
  have q1 : SqL K H a vs := (e1.trans e2).seq h1
  have q2 : SqL K H b ws := (e1.trans e2).seq h2
  have l1 := r1.length
  have l2 := r2.length
  have hl : (zipP ps qs).length = min ps.length qs.length := by simp [zipP]
  refine ⟨fun i hi => ⟨vs, ws, vs[i]'(by omega), ws[i]'(by omega), q1, q2, by simp [show i < vs.length by omega], by simp [show i < ws.length by omega]⟩, ⟨vs, ws, q1, q2, by omega⟩, fun i x H'' p hp y => ?_⟩
  obtain ⟨T, x1, x2, rfl, nT, rfl, f1, f2⟩ := y
  obtain ⟨pa, pb, g1, g2, rfl⟩ := zipP_get hp
  obtain ⟨u1, k1, s1⟩ := r1.get g1
  obtain ⟨u2, k2, s2⟩ := r2.get g2
  have z1 := f1 vs q1
  have z2 := f2 ws q2
  rw [k1] at z1; cases z1
  rw [k2] at z2; cases z2
  exact ⟨upd S2 T (.tup [x1, x2]), Ext.new e2 nT, .tup (SqT.of upd_same) (.cons (s1.mono (e1.trans (same_new (e2.free nT)))) (.one (s2.mono (e1.trans (same_new (e2.free nT))))))⟩
theorem walkZT {a b : Addr} {vs ws : List V} {ps qs : List PV} (h1 : SqT K S' a vs) (h2 : SqT K S' b ws) (r1 : Reps K mg S' vs ps) (r2 : Reps K mg S' ws qs) : WalkP K mg S' (RZ.ItzT K a b) (zipP ps qs) := fun S2 H e1 e2 => by
  have q1 : SqT K H a vs := seqT (e1.trans e2) h1
  have q2 : SqT K H b ws := seqT (e1.trans e2) h2
  have l1 := r1.length
  have l2 := r2.length
  have hl : (zipP ps qs).length = min ps.length qs.length := by simp [zipP]
  refine ⟨fun i hi => ⟨vs, ws, vs[i]'(by omega), ws[i]'(by omega), q1, q2, by simp [show i < vs.length by omega], by simp [show i < ws.length by omega]⟩, ⟨vs, ws, q1, q2, by omega⟩, fun i x H'' p hp y => ?_⟩
  obtain ⟨T, x1, x2, rfl, nT, rfl, f1, f2⟩ := y
  obtain ⟨pa, pb, g1, g2, rfl⟩ := zipP_get hp
  obtain ⟨u1, k1, s1⟩ := r1.get g1
  obtain ⟨u2, k2, s2⟩ := r2.get g2
  have z1 := f1 vs q1
  have z2 := f2 ws q2
  rw [k1] at z1; cases z1
  rw [k2] at z2; cases z2
  exact ⟨upd S2 T (.tup [x1, x2]), Ext.new e2 nT, .tup (SqT.of upd_same) (.cons (s1.mono (e1.trans (same_new (e2.free nT)))) (.one (s2.mono (e1.trans (same_new (e2.free nT))))))⟩
def enumP (ps : List PV) : List PV := ps.zipIdx.map fun pi => .tup [.int (pi.2 : Nat), pi.1]
theorem walkE {a : Addr} {vs : List V} {ps : List PV} (h1 : SqL K S' a vs) (r1 : Reps K mg S' vs ps) : WalkP K mg S' (Ite K a) (enumP ps) := fun S2 H e1 e2 => by
  have q1 : SqL K H a vs := (e1.trans e2).seq h1
  have l1 := r1.length
  have hl : (enumP ps).length = ps.length := by simp [enumP]
  refine ⟨fun i hi => ⟨vs, vs[i]'(by omega), q1, by simp [show i < vs.length by omega]⟩, ⟨vs, q1, by omega⟩, fun i x H'' p hp y => ?_⟩
  obtain ⟨T, x1, rfl, nT, rfl, f1⟩ := y
  have hi : i < ps.length := by rw [← hl]; exact (List.getElem?_eq_some_iff.mp hp).1
  have g : (enumP ps)[i]? = some (.tup [.int (i : Nat), ps[i]]) := by simp [enumP, hi]
  rw [g] at hp; cases hp
  obtain ⟨u1, k1, s1⟩ := r1.get (List.getElem?_eq_getElem hi)
  have z1 := f1 vs q1
  rw [k1] at z1; cases z1
  exact ⟨upd S2 T (.tup [.int (i : Nat), x1]), Ext.new e2 nT, .tup (SqT.of upd_same) (.cons .int (.one (s1.mono (e1.trans (same_new (e2.free nT))))))⟩
end
def seqI : PV → R (List PV)
  | .lst xs => .ok xs
  | .fls xs => .ok xs
  | .tup xs => .ok xs
  | _ => .bad
def pSeq (f : Env → R PV) : Env → R (List PV) := fun ρ => (f ρ).bind seqI
noncomputable def whenP {α : Type} (p : Prop) (a b : α) : α := @ite α p (Classical.propDecidable p) a b
theorem whenP_pos {α : Type} {p : Prop} {a b : α} (h : p) : whenP p a b = a := by unfold whenP; exact if_pos h
theorem whenP_neg {α : Type} {p : Prop} {a b : α} (h : ¬ p) : whenP p a b = b := by unfold whenP; exact if_neg h
noncomputable def rng1 : List PV → R (List PV)
  | [.int j] => whenP (-(2 ^ 62) ≤ j ∧ j < 2 ^ 62) (.ok (rangeP 0 j.toNat)) .bad
  | _ => .bad
noncomputable def rng2 : List PV → R (List PV)
  | [.int i, .int j] => whenP (-(2 ^ 62) ≤ i ∧ i < 2 ^ 62 ∧ -(2 ^ 62) ≤ j ∧ j < 2 ^ 62) (.ok (rangeP i (j - i).toNat)) .bad
  | _ => .bad
def zip2 : List PV → R (List PV)
  | [.lst xs, .lst ys] => .ok (zipP xs ys)
  | [.tup xs, .tup ys] => .ok (zipP xs ys)
  | _ => .bad
def enum1 : List PV → R (List PV)
  | [.lst xs] => .ok (enumP xs)
  | [.fls xs] => .ok (enumP xs)
  | _ => .bad
def pIt (g : List PV → R (List PV)) (fs : Env → R (List PV)) : Env → R (List PV) := fun ρ => (fs ρ).bind g
section
variable {X : Cx} {B : Bs} {W : WX} {tg e e2 a b : Expr} {pos p : Pos} {f : Env → R PV} {fs : Env → R (List PV)}
theorem i_seq (he : EE X B W e f) : EI X B W tg e (pSeq f) := ⟨fun pins s σ H Q I ⟨ρ, S, Rl, q⟩ => by
  let Q' : VK := fun v H1 => (∃ a, v = .ref a ∧ (∃ xs, SqL X.K H1 a xs) ∧ Q (Itl X.K a) H1) ∨ ∃ a, v = .ref a ∧ (∃ xs, SqT X.K H1 a xs) ∧ Q (Itt X.K a) H1
  refine thn (he.run pins s σ H Q' I ⟨ρ, S, Rl, GoE.atI q fun v p S1 H1 e r h => ?_⟩) fun v s1 ⟨x, H1, I1, r1, q1⟩ => ?_
  · cases r with
    | lst h1 r => exact .inl ⟨_, rfl, ⟨_, SqL.of (e.sh _ _ h1)⟩, h _ S1 H1 (Ext.refl e.sh) (walkL (SqL.of h1) r)⟩
    | fls h1 r => exact .inl ⟨_, rfl, ⟨_, e.sh.seq h1⟩, h _ S1 H1 (Ext.refl e.sh) (walkL h1 r)⟩
    | tup h1 r => exact .inr ⟨_, rfl, ⟨_, seqT e.sh h1⟩, h _ S1 H1 (Ext.refl e.sh) (walkT h1 r)⟩
    | _ => exact h.elim
  · rcases q1 with ⟨a, rfl, ⟨xs, hq⟩, q1⟩ | ⟨a, rfl, ⟨xs, hq⟩, q1⟩
    · cases r1
      obtain ⟨its, rv, p, hz⟩ := I1.list hq
      refine wpAny_pyIter_list p.isList ?_
      refine ⟨s1.heap.objs.size, [s1.heap.objs.size], _, _, H1, rfl, I1.kept (t' := s1.toks) fun b o e => Heap.get?_push_of_some _ e, turn_list a _, ⟨_, Heap.get?_push_size _ rfl, rfl, rfl⟩, fun b hb => ?_, q1⟩
      have e : b = s1.heap.objs.size := by simpa using hb
      subst e
      exact I1.fpOk (Nat.le_refl _) (I1.hok.fresh (Nat.le_refl _))
    · cases r1
      obtain ⟨its, rv, p, hz⟩ := I1.tuple hq
      refine wpAny_pyIter_tuple (show s1.heap.IsTuple a its.toArray from p) ?_
      refine ⟨s1.heap.objs.size, [s1.heap.objs.size], _, _, H1, rfl, I1.kept (t' := s1.toks) fun b o e => Heap.get?_push_of_some _ e, turn_tuple a _, ⟨_, Heap.get?_push_size _ rfl, rfl, rfl⟩, fun b hb => ?_, q1⟩
      have e : b = s1.heap.objs.size := by simpa using hb
      subst e
      exact I1.fpOk (Nat.le_refl _) (I1.hok.fresh (Nat.le_refl _))⟩
theorem i_range1 (hm : X.mg "range" = none) (ha : EA X B W [a] fs) (hg : Gl X "range" := by rfl) (hs : starEach [a] X.env = [(false, eval a X.env)] := by rfl) : EI X B W tg (.Call (.Name "range" p) [a] [] pos) (pIt rng1 fs) :=
  PI.imp (pi_range1 hg hm ha hs) fun σ H Q ⟨ρ, S, Rl, q⟩ => ⟨ρ, S, Rl, GoA.atI q fun vs ps S1 H1 e r h => by
    unfold rng1 at h
    split at h
    · cases r with
      | cons r1 r2 =>
        cases r1; cases r2
        unfold whenP at h
        split at h
        · rename_i hb
          exact ⟨_, rfl, hb.1, hb.2, h _ S1 H1 (Ext.refl e.sh) walkR⟩
        · exact h.elim
    · exact h.elim⟩
theorem i_range2 (hm : X.mg "range" = none) (ha : EA X B W [a, b] fs) (hg : Gl X "range" := by rfl) (hs : starEach [a, b] X.env = [(false, eval a X.env), (false, eval b X.env)] := by rfl) (hs2 : starEach [b] X.env = [(false, eval b X.env)] := by rfl) : EI X B W tg (.Call (.Name "range" p) [a, b] [] pos) (pIt rng2 fs) :=
  PI.imp (pi_range2 hg hm ha hs hs2) fun σ H Q ⟨ρ, S, Rl, q⟩ => ⟨ρ, S, Rl, GoA.atI q fun vs ps S1 H1 e r h => by
    unfold rng2 at h
    split at h
    · cases r with
      | cons r1 r2 =>
        cases r2 with
        | cons r2 r3 =>
          cases r1; cases r2; cases r3
          unfold whenP at h
          split at h
          · rename_i hb
            exact ⟨_, _, rfl, hb, h _ S1 H1 (Ext.refl e.sh) walkR⟩
          · exact h.elim
    · exact h.elim⟩
theorem i_zip {elts : List Expr} {kk : Nat} {tpos : Pos} (hm : X.mg "zip" = none) (ha : EA X B W [e, e2] fs) (hg : Gl X "zip" := by rfl)
    (hs : starEach [e, e2] X.env = (false, eval e X.env) :: starEach [e2] X.env := by rfl) (hpl : (backTo pos (starEach [e2] X.env)).any (·.1) = false := by rfl) : EI X B W (.Tuple elts kk tpos) (.Call (.Name "zip" p) [e, e2] [] pos) (pIt zip2 fs) :=
  PI.imp (RZ.pi_zipA hg hm ha hs hpl) fun σ H Q ⟨ρ, S, Rl, q⟩ => ⟨ρ, S, Rl, GoA.atI q fun vs ps S1 H1 e r h => by
    unfold zip2 at h
    split at h
    · cases r with
      | cons r1 r2 =>
        cases r2 with
        | cons r2 r3 =>
          cases r3
          cases r1 with
          | lst h1 r1 =>
            cases r2 with
            | lst h2 r2 => exact ⟨_, _, _, _, rfl, .inl ⟨SqL.of (e.sh _ _ h1), SqL.of (e.sh _ _ h2), h _ S1 H1 (Ext.refl e.sh) (walkZ (SqL.of h1) (SqL.of h2) r1 r2)⟩⟩
    · cases r with
      | cons r1 r2 =>
        cases r2 with
        | cons r2 r3 =>
          cases r3
          cases r1 with
          | tup h1 r1 =>
            cases r2 with
            | tup h2 r2 => exact ⟨_, _, _, _, rfl, .inr ⟨seqT e.sh h1, seqT e.sh h2, h _ S1 H1 (Ext.refl e.sh) (walkZT h1 h2 r1 r2)⟩⟩
    · exact h.elim⟩
theorem i_enum {elts : List Expr} {kk : Nat} {tpos : Pos} (hm : X.mg "enumerate" = none) (ha : EA X B W [e] fs) (hg : Gl X "enumerate" := by rfl) (hs : starEach [e] X.env = [(false, eval e X.env)] := by rfl) : EI X B W (.Tuple elts kk tpos) (.Call (.Name "enumerate" p) [e] [] pos) (pIt enum1 fs) :=
  PI.imp (pi_enum hg hm ha hs) fun σ H Q ⟨ρ, S, Rl, q⟩ => ⟨ρ, S, Rl, GoA.atI q fun vs ps S1 H1 e r h => by
    unfold enum1 at h
    split at h
    · cases r with
      | cons r1 r2 =>
        cases r2
        cases r1 with
        | lst h1 r1 => exact ⟨_, _, rfl, SqL.of (e.sh _ _ h1), h _ S1 H1 (Ext.refl e.sh) (walkE (SqL.of h1) r1)⟩
    · cases r with
      | cons r1 r2 =>
        cases r2
        cases r1 with
        | fls h1 r1 => exact ⟨_, _, rfl, e.sh.seq h1, h _ S1 H1 (Ext.refl e.sh) (walkE h1 r1)⟩
    · exact h.elim⟩
end

/-! ### targets -/
def GoG (K : PySem.W.Frag) (mg : Str → Option Value) (B : Bs) (S H : Hp) (Q : L2.St → Hp → Prop) : R Env → Prop
  | .ok ρ => ∀ σ S' H', Same S S' → Same H H' → Rel K mg B S' σ H' ρ → Q σ H'
  | .exc _ => False
  | .bad => False
def gT (K : PySem.W.Frag) (mg : Str → Option Value) (B : Bs) (g : PV → Env → R Env) : TG := fun v σ H Q => ∃ p ρ S, Rel K mg B S σ H ρ ∧ Rep K mg S v p ∧ GoG K mg B S H Q (g p ρ)
def gsT (K : PySem.W.Frag) (mg : Str → Option Value) (B : Bs) (g : List PV → Env → R Env) : TGs := fun vs σ H Q => ∃ ps ρ S, Rel K mg B S σ H ρ ∧ Reps K mg S vs ps ∧ GoG K mg B S H Q (g ps ρ)
abbrev EG (X : Cx) (B : Bs) (tg : Expr) (g : PV → Env → R Env) : Prop := PG X tg (gT X.K X.mg B g)
abbrev EGs (X : Cx) (B : Bs) (tg : List Expr) (g : List PV → Env → R Env) : Prop := PGs X tg (gsT X.K X.mg B g)
theorem PG.imp {X : Cx} {tg : Expr} {t t' : TG} (h : PG X tg t) (i : ∀ v σ H Q, t' v σ H Q → t v σ H Q) : PG X tg t' := ⟨fun pins s σ H v u Q I r q => h.run pins s σ H v u Q I r (i v σ H Q q)⟩
theorem PGs.imp {X : Cx} {tg : List Expr} {t t' : TGs} (h : PGs X tg t) (i : ∀ v σ H Q, t' v σ H Q → t v σ H Q) : PGs X tg t' := ⟨fun pins s σ H v u Q I r q => h.run pins s σ H v u Q I r (i v σ H Q q)⟩
def gNam (i : Nat) : PV → Env → R Env := fun p ρ => .ok (ρ.set i (.sh p))
def gsNil : List PV → Env → R Env := fun ps ρ => match ps with
  | [] => .ok ρ
  | _ => .bad
def gsCons (g : PV → Env → R Env) (gs : List PV → Env → R Env) : List PV → Env → R Env := fun ps ρ => match ps with
  | p :: ps => (g p ρ).bind fun ρ' => gs ps ρ'
  | [] => .bad
def gTupP (n : Nat) (gs : List PV → Env → R Env) : PV → Env → R Env := fun p ρ => match p with
  | .tup ps => if ps.length = n then gs ps ρ else .bad
  | _ => .bad
section
variable {X : Cx} {B : Bs} {pos : Pos} {g : PV → Env → R Env} {gs : List PV → Env → R Env} {e : Expr} {es : List Expr}
theorem g_name (i : Nat) {x : Str} (h0 : B.me = none ∨ i ≠ 0) (hN : X.N.Nodup) (hi : X.N[i]? = some x := by rfl) (hx : Loc X.env.scope x := by first | exact Or.inl rfl | exact Or.inr rfl) (hf : X.fn x = true ∨ X.env.scope.names.lookup x = some .local := by first | exact .inl rfl | exact .inr rfl | assumption) : EG X B (.Name x pos) (gNam i) :=
  PG.imp (pg_name hN hi hx hf) fun v σ H Q ⟨p, ρ, S, Rl, r, q⟩ => q _ S H (Same.refl _) (Same.refl _) (Rl.putSh i r h0)
theorem gs_nil : EGs X B [] gsNil := PGs.imp pgs_nil fun vs σ H Q ⟨ps, ρ, S, Rl, r, q⟩ => by
  cases r with
  | nil => exact ⟨rfl, q σ S H (Same.refl _) (Same.refl _) Rl⟩
  | cons _ _ => exact q.elim
theorem gs_cons (h1 : EG X B e g) (h2 : EGs X B es gs) (hs : (assignEach (e :: es) X.env).map (·.2) = assign e X.env :: (assignEach es X.env).map (·.2) := by rfl) : EGs X B (e :: es) (gsCons g gs) := PGs.imp (pgs_cons h1 h2 hs) fun vs σ H Q ⟨ps, ρ, S, Rl, r, q⟩ => by
  cases r with
  | nil => exact q.elim
  | @cons v vr p pr r1 r2 =>
    refine ⟨v, vr, rfl, p, ρ, S, Rl, r1, ?_⟩
    have q : GoG X.K X.mg B S H Q ((g p ρ).bind fun ρ' => gs pr ρ') := q
    cases z : g p ρ with
    | ok ρ' =>
      rw [z] at q
      intro σ' S' H' e1 e2 R'
      refine ⟨pr, ρ', S', R', r2.mono e1, ?_⟩
      have q : GoG X.K X.mg B S H Q (gs pr ρ') := q
      cases z2 : gs pr ρ' with
      | ok ρ2 => rw [z2] at q; exact fun σ2 S2 H2 f1 f2 R2 => q σ2 S2 H2 (e1.trans f1) (e2.trans f2) R2
      | exc x => rw [z2] at q; exact q
      | bad => rw [z2] at q; exact q
    | exc x => rw [z] at q; exact q
    | bad => rw [z] at q; exact q
theorem g_tup {k n : Nat} (hc : X.calm = true) (h : EGs X B es gs) (hn : (assignEach es X.env).length = n := by rfl) (hst : (assignEach es X.env).findIdx? (·.1) = none := by rfl) : EG X B (.Tuple es k pos) (gTupP n gs) := PG.imp (pg_tup hc h hn hst) fun v σ H Q ⟨p, ρ, S, Rl, r, q⟩ => by
  cases r with
  | tup h1 r =>
    have q : GoG X.K X.mg B S H Q (if _ then _ else _) := q
    split at q
    · rename_i hl
      exact ⟨_, _, rfl, seqT Rl.sh h1, by rw [r.length]; exact hl, _, ρ, S, Rl, r, q⟩
    · exact q.elim
  | _ => exact q.elim
end
end Pu
set_option Elab.async false
set_option linter.all false
set_option maxRecDepth 100000
set_option maxHeartbeats 4000000
namespace Pu
open PySem PySem.Spec PyProof.Rows L2

/-! ### loops -/
def forL (g : PV → Env → R Env) (body : Env → O) : List PV → Env → O
  | [], ρ => .nx ρ
  | p :: ps, ρ => match g p ρ with
    | .ok ρ1 => (match body ρ1 with
      | .nx ρ2 => forL g body ps ρ2
      | .ct ρ2 => forL g body ps ρ2
      | .bk ρ2 => .nx ρ2
      | .rt v ρ2 => .rt v ρ2
      | .exc x ρ2 => .exc x ρ2
      | .bad => .bad)
    | _ => .bad
def sFor (fr : List Nat) (it : Env → R (List PV)) (g : PV → Env → R Env) (body : Env → O) : Env → O := fun ρ => match it (frzs fr ρ) with
  | .ok ps => forL g body ps (frzs fr ρ)
  | .exc x => .exc x (frzs fr ρ)
  | .bad => .bad
section
variable {X : Cx} {B : Bs} {W : WX} {tg iter : Expr} {body : List Stmt} {pos : Pos} {it : Env → R (List PV)} {g : PV → Env → R Env} {fb : Env → O}
theorem s_for (fr : List Nat) (hp : PassesOwn (model X.prog X.w) X.A X.env X.xe) (hc : X.calm = true) (hi : EI X B W tg iter it) (hg : EG X B tg g) (hb : EB X B W body fb) (hs : ∀ x, foldedSetIterable iter X.env x = pure x := by intro _; rfl) : ES X B W (.For tg iter body [] pos) (sFor fr it g fb) :=
  PS.imp (ps_for hp hc hi hg hb hs) fun D σ H ⟨ρ, S, Rl, q⟩ => by
    obtain ⟨S1, s1, R1⟩ := Rl.frzs fr
    refine ⟨frzs fr ρ, S1, R1, ?_⟩
    unfold sFor at q
    cases z : it (frzs fr ρ) with
    | ok ps =>
      rw [z] at q
      intro J S' H1 e1 wk
      have R1' := R1.ext e1
      have q := GoS.later (s1.trans e1.s) q
      refine ⟨fun i m σ H => i + m = ps.length ∧ ∃ ρ2 S2, Same S' S2 ∧ Rel X.K X.mg B S2 σ H ρ2 ∧ GoS X.K X.mg B S2 D W (forL g fb (ps.drop i) ρ2), ⟨ps.length, Nat.zero_add _, frzs fr ρ, S', Same.refl _, R1', q⟩, ?_⟩
      rintro i m σ2 H2 ⟨hm, ρ2, S2, s2, R2, q2⟩
      obtain ⟨w1, w2, w3⟩ := wk S2 H2 s2 R2.sh
      by_cases hi : i < ps.length
      · rw [List.drop_eq_getElem_cons hi] at q2
        unfold forL at q2
        refine .inr ⟨w1 i hi, fun σ' H' => ∃ ρ2 S3, Same S' S3 ∧ Rel X.K X.mg B S3 σ' H' ρ2 ∧ GoS X.K X.mg B S3 D W (forL g fb (ps.drop (i + 1)) ρ2), fun σ' H' h => ⟨m - 1, by omega, by omega, h⟩, fun x H'' y => ?_⟩
        obtain ⟨S3, e3, r3⟩ := w3 i x H'' _ (List.getElem?_eq_getElem hi) y
        refine ⟨ps[i], ρ2, S3, R2.ext e3, r3, ?_⟩
        cases zg : g ps[i] ρ2 with
        | ok ρ3 =>
          rw [zg] at q2
          intro σ4 S4 H4 s4 h4 R4
          refine ⟨ρ3, S4, R4, ?_⟩
          have q2 := GoS.later (e3.s.trans s4) q2
          have up : Same S' S4 := s2.trans (e3.s.trans s4)
          cases zb : fb ρ3 with
          | nx ρ4 =>
            simp only [zb] at q2
            exact fun σ5 H5 S5 s5 R5 => ⟨ρ4, S5, up.trans s5, R5, GoS.later s5 q2⟩
          | ct ρ4 =>
            simp only [zb] at q2
            exact fun σ5 H5 S5 s5 R5 => ⟨ρ4, S5, up.trans s5, R5, GoS.later s5 q2⟩
          | bk ρ4 => simp only [zb] at q2; exact q2
          | rt v ρ4 => simp only [zb] at q2; exact q2
          | exc x ρ4 => simp only [zb] at q2; exact q2
          | bad => simp only [zb] at q2; exact q2
        | exc x => rw [zg] at q2; exact q2.elim
        | bad => rw [zg] at q2; exact q2.elim
      · have e : i = ps.length := by omega
        subst e
        rw [List.drop_length] at q2
        exact .inl ⟨w2, q2 σ2 H2 S2 (Same.refl _) R2⟩
    | exc x =>
      rw [z] at q
      exact fun cls d S' H' e r => q cls d σ H' S' (s1.trans e.s) (R1.ext e) r
    | bad => rw [z] at q; exact q

def whileL (c : Env → R Bool) (body : Env → O) : Nat → Env → O
  | 0, _ => .bad
  | n + 1, ρ => match c ρ with
    | .ok true => (match body ρ with
      | .nx ρ2 => whileL c body n ρ2
      | .ct ρ2 => whileL c body n ρ2
      | .bk ρ2 => .nx ρ2
      | .rt v ρ2 => .rt v ρ2
      | .exc x ρ2 => .exc x ρ2
      | .bad => .bad)
    | .ok false => .nx ρ
    | .exc x => .exc x ρ
    | .bad => .bad
/-- while, at most n turns; its test sees fr frozen -/
def sWhile (n : Nat) (fr : List Nat) (c : Env → R Bool) (body : Env → O) : Env → O := whileL (fun ρ => match c (frzs fr ρ) with | .exc _ => .bad | r => r) body n
theorem s_while (n : Nat) (fr : List Nat) (hp : PassesOwn (model X.prog X.w) X.A X.env X.xe) {c : Expr} {tc : Env → R Bool} (hc : ET X B W c tc) (hb : EB X B W body fb) : ES X B W (.While c body [] pos) (sWhile n fr tc fb) :=
  PS.imp (ps_while hp hc hb) fun D σ H ⟨ρ, S, Rl, q⟩ => by
    refine ⟨fun m σ H => ∃ ρ2 S2, Same S S2 ∧ Rel X.K X.mg B S2 σ H ρ2 ∧ GoS X.K X.mg B S2 D W (whileL (fun ρ => match tc (frzs fr ρ) with | .exc _ => .bad | r => r) fb m ρ2), ⟨n, ρ, S, Same.refl _, Rl, q⟩, ?_⟩
    rintro m σ2 H2 ⟨ρ2, S2, s2, R2, q2⟩
    cases m with
    | zero => exact q2.elim
    | succ m =>
      unfold whileL at q2
      obtain ⟨S3, s3, R3⟩ := R2.frzs fr
      refine ⟨frzs fr ρ2, S3, R3, ?_⟩
      cases z : tc (frzs fr ρ2) with
      | ok b =>
        simp only [z] at q2
        intro S4 H4 e4
        have R4 := R2.grow e4.h
        cases b with
        | true =>
          simp only at q2
          rw [if_pos rfl]
          refine ⟨fun σ' H' => ∃ ρ2 S3, Same S S3 ∧ Rel X.K X.mg B S3 σ' H' ρ2 ∧ GoS X.K X.mg B S3 D W (whileL (fun ρ => match tc (frzs fr ρ) with | .exc _ => .bad | r => r) fb m ρ2), fun σ' H' h => ⟨m, Nat.lt_succ_self _, h⟩, ρ2, S2, R4, ?_⟩
          cases zb : fb ρ2 with
          | nx ρ4 =>
            simp only [zb] at q2
            exact fun σ5 H5 S5 s5 R5 => ⟨ρ4, S5, s2.trans s5, R5, GoS.later s5 q2⟩
          | ct ρ4 =>
            simp only [zb] at q2
            exact fun σ5 H5 S5 s5 R5 => ⟨ρ4, S5, s2.trans s5, R5, GoS.later s5 q2⟩
          | bk ρ4 => simp only [zb] at q2; exact q2
          | rt v ρ4 => simp only [zb] at q2; exact q2
          | exc x ρ4 => simp only [zb] at q2; exact q2
          | bad => simp only [zb] at q2; exact q2
        | false =>
          simp only at q2
          rw [if_neg Bool.false_ne_true]
          exact q2 σ2 H4 S2 (Same.refl _) R4
      | exc x => simp only [z] at q2; exact q2.elim
      | bad => simp only [z] at q2; exact q2.elim
end

/-! ### comprehensions -/
def compL (g : PV → Env → R Env) (t : Env → R Bool) (f : Env → R PV) (ρ : Env) : List PV → R (List PV)
  | [] => .ok []
  | p :: ps => (nox (g p ρ)).bind fun ρ1 => (nox (t ρ1)).bind fun b => if b = true then (nox (f ρ1)).bind fun v => (compL g t f ρ ps).bind fun vs => .ok (v :: vs) else compL g t f ρ ps
def wipeE (ρ : Env) : List Nat → Env
  | [] => ρ
  | v :: vs => (wipeE ρ vs).set v .un
def tYesP : Env → R Bool := fun _ => .ok true
def pComp (own : List Nat) (it : Env → R (List PV)) (g : PV → Env → R Env) (t : Env → R Bool) (f : Env → R PV) : Env → R Slot := fun ρ => (it ρ).bind fun ps => (compL g t f (wipeE ρ own) ps).bind fun vs => if vs.length ≤ sizeLine then .ok (.ow vs) else .bad
theorem Rel.wipe {K : PySem.W.Frag} {mg : Str → Option Value} {B : Bs} {S H : Hp} {σ : L2.St} {ρ : Env} (R : Rel K mg B S σ H ρ) : ∀ {vs : List Nat}, (∀ i ∈ vs, B.me = none ∨ i ≠ 0) → Rel K mg B S (L2.wipe σ vs) H (wipeE ρ vs)
  | [], _ => R
  | v :: vs, h => (Rel.wipe R (fun i hi => h i (by simp [hi]))).putUn v none (h v (by simp))
abbrev EQ (X : Cx) (B : Bs) (W : WX) (ifs : List Expr) (t : Env → R Bool) : Prop := PTs X ifs (tT X.K X.mg B W t)
theorem PTs.imp {X : Cx} {e : List Expr} {t t' : TT} (h : PTs X e t) (i : ∀ σ H Q, t' σ H Q → t σ H Q) : PTs X e t' := ⟨fun pins s σ H Q I q => h.run pins s σ H Q I (i σ H Q q)⟩
abbrev W0 : WX := fun _ _ _ _ => False
section
variable {X : Cx} {B : Bs} {W : WX}
theorem q_nil : EQ X B W [] tYesP := PTs.imp pts_nil fun σ H Q ⟨ρ, S, Rl, q⟩ => q S H (Ext.refl Rl.sh)
theorem q_one {c : Expr} {t : Env → R Bool} (h : ET X B W c t) : EQ X B W [c] t := pts_one h
theorem wipe_set {σ : L2.St} {i : Nat} {v : Option V} : ∀ {vs : List Nat}, i ∈ vs → L2.wipe (σ.set i v) vs = L2.wipe σ vs
  | [], h => by cases h
  | w :: vs, h => by
    unfold L2.wipe
    by_cases e : w = i
    · subst e
      by_cases m : w ∈ vs
      · rw [wipe_set m]
      · have aux : ∀ {vs : List Nat}, w ∉ vs → L2.wipe (σ.set w v) vs = (L2.wipe σ vs).set w v := by
          intro vs
          induction vs with
          | nil => intro _; rfl
          | cons u us ih =>
            intro hm
            unfold L2.wipe
            rw [ih (fun z => hm (by simp [z])), List.set_comm _ _ (fun z => hm (by simp [z]))]
        rw [aux m, List.set_set]
    · rcases List.mem_cons.mp h with z | z
      · exact absurd z.symm e
      · rw [wipe_set z]
theorem wipe_wipe {σ : L2.St} {vs : List Nat} : L2.wipe (L2.wipe σ vs) vs = L2.wipe σ vs := by
  have aux : ∀ (us : List Nat) (σ : L2.St), (∀ i ∈ us, i ∈ vs) → L2.wipe (L2.wipe σ us) vs = L2.wipe σ vs := by
    intro us
    induction us with
    | nil => intro σ _; rfl
    | cons u us ih =>
      intro σ h
      show L2.wipe ((L2.wipe σ us).set u none) vs = _
      rw [wipe_set (h u (by simp)), ih σ fun i hi => h i (by simp [hi])]
  exact aux vs σ fun _ h => h

/-- a comprehension's target: a name, a tuple of names -/
inductive Tg where
  | nam (i : Nat) | tup (is : List Nat)
def Tg.ixs : Tg → List Nat
  | .nam i => [i]
  | .tup is => is
def Tg.g : Tg → PV → Env → R Env
  | .nam i => gNam i
  | .tup is => gTupP is.length (is.foldr (fun i r => gsCons (gNam i) r) gsNil)
def Tg.t (K : PySem.W.Frag) : Tg → TG
  | .nam i => gName i
  | .tup is => gTup K is.length (is.foldr (fun i r => gCons (gName i) r) gNil)
theorem Tg.oks {K : PySem.W.Frag} {mg : Str → Option Value} {S H : Hp} {vs : List Nat} {ρ2 : Env} {Q : L2.St → Hp → Prop} (h0 : ∀ i ∈ vs, B.me = none ∨ i ≠ 0) : ∀ {is : List Nat} {σ : L2.St} {ρ : Env} {ws : List V} {ps : List PV}, (∀ i ∈ is, i ∈ vs) → Rel K mg B S σ H ρ → Reps K mg S ws ps →
    (is.foldr (fun i r => gsCons (gNam i) r) gsNil) ps ρ = .ok ρ2 → (∀ σ2, L2.wipe σ2 vs = L2.wipe σ vs → Rel K mg B S σ2 H ρ2 → Q σ2 H) → (is.foldr (fun i r => gCons (gName i) r) gNil) ws σ H Q
  | [], σ, ρ, ws, ps, hv, Rl, r, hg, hq => by
    cases r with
    | nil => cases hg; exact ⟨rfl, hq _ rfl Rl⟩
    | cons _ _ => cases hg
  | i :: is, σ, ρ, ws, ps, hv, Rl, r, hg, hq => by
    cases r with
    | nil => cases hg
    | @cons w wr p pr r1 r2 =>
      have hi : i ∈ vs := hv i (by simp)
      exact ⟨w, wr, rfl, Tg.oks h0 (fun k hk => hv k (by simp [hk])) (Rl.putSh i r1 (h0 i hi)) r2 hg fun σ2 e => hq σ2 (by rw [e, wipe_set hi])⟩
theorem Tg.ok {K : PySem.W.Frag} {mg : Str → Option Value} {S H : Hp} {vs : List Nat} {σ : L2.St} {ρ ρ2 : Env} {x : V} {p : PV} {Q : L2.St → Hp → Prop} (tg : Tg) (hv : ∀ i ∈ tg.ixs, i ∈ vs) (h0 : ∀ i ∈ vs, B.me = none ∨ i ≠ 0) (Rl : Rel K mg B S σ H ρ) (r : Rep K mg S x p)
    (hg : tg.g p ρ = .ok ρ2) (hq : ∀ σ2, L2.wipe σ2 vs = L2.wipe σ vs → Rel K mg B S σ2 H ρ2 → Q σ2 H) : tg.t K x σ H Q := by
  cases tg with
  | nam i =>
    cases hg
    have hi : i ∈ vs := hv i (by simp [Tg.ixs])
    exact hq _ (wipe_set hi) (Rl.putSh i r (h0 i hi))
  | tup is =>
    cases r with
    | @tup a ws ps h1 r =>
      have hg : (if ps.length = is.length then (is.foldr (fun i r => gsCons (gNam i) r) gsNil) ps ρ else .bad) = .ok ρ2 := hg
      split at hg
      · rename_i hl
        exact ⟨a, ws, rfl, seqT Rl.sh h1, by rw [r.length]; exact hl, Tg.oks h0 hv Rl r hg hq⟩
      · cases hg
    | _ => cases hg
theorem Ext.keepNone {S H S' H' : Hp} (e : Ext S H S' H') {D : Addr} {o : HO} (h1 : S D = none) (h2 : H D = some o) : S' D = none := by
  cases y : S' D with
  | none => rfl
  | some u =>
    rcases e.fr D u y with w | w
    · rw [h1] at w; cases w
    · rw [h2] at w; cases w
theorem lc_read {own : List (Str × Nat)} {it : Env → R (List PV)} {t : Env → R Bool} {f : Env → R PV} {K : PySem.W.Frag} {mg : Str → Option Value} (tgk : Tg) (h0 : ∀ i ∈ own.map (·.2), B.me = none ∨ i ≠ 0) (hv : ∀ i ∈ tgk.ixs, i ∈ own.map (·.2))
    {σ : L2.St} {H : Hp} {Q : VK} {ρ : Env} {S : Hp} (Rl : Rel K mg B S σ H ρ) (q : GoF K mg S H Q (fun cls d H' => W cls d σ H') (pComp (own.map (·.2)) it tgk.g t f ρ)) :
    tLc (iT K mg B W it) (tgk.t K) (tT K mg B W0 t) (eT K mg B W0 f) (own.map (·.2)) σ H Q := by
  refine ⟨ρ, S, Rl, ?_⟩
  unfold pComp at q
  cases z : it ρ with
  | ok ps =>
    rw [z] at q
    have q : GoF K mg S H Q (fun cls d H' => W cls d σ H') ((compL tgk.g t f (wipeE ρ (own.map (·.2))) ps).bind fun vs => if vs.length ≤ sizeLine then .ok (.ow vs) else .bad) := q
    cases z2 : compL tgk.g t f (wipeE ρ (own.map (·.2))) ps with
    | ok vs =>
      rw [z2] at q
      have q : GoF K mg S H Q (fun cls d H' => W cls d σ H') (if vs.length ≤ sizeLine then .ok (.ow vs) else .bad) := q
      split at q
      · rename_i hl
        intro J S' H1 e1 wk D hD
        have R1 := (Rl.ext e1).wipe h0
        -- the turns: what is made so far, what is still to be made
        refine ⟨fun i m H2 => i + m = ps.length ∧ ∃ (S2 : Hp) (acc : List V) (done todo : List PV), Ext S' H1 S2 H2 ∧ S2 D = none ∧ H2 D = some (.lst acc) ∧ Reps K mg S2 acc done ∧
          compL tgk.g t f (wipeE ρ (own.map (·.2))) (ps.drop i) = .ok todo ∧ vs = done ++ todo, ⟨ps.length, Nat.zero_add _, S', [], [], vs, Ext.own e1.sh hD, e1.sh.free hD, upd_same, .nil, z2, rfl⟩, ?_⟩
        rintro i m H2 ⟨hm, S2, acc, done, todo, e2, n2, a2, r2, c2, hv2⟩
        obtain ⟨w1, w2, w3⟩ := wk S2 H2 e2.s e2.sh
        by_cases hi : i < ps.length
        · rw [List.drop_eq_getElem_cons hi] at c2
          unfold compL at c2
          refine .inr ⟨w1 i hi, fun H' => ∃ (S2 : Hp) (acc : List V) (done todo : List PV), Ext S' H1 S2 H' ∧ S2 D = none ∧ H' D = some (.lst acc) ∧ Reps K mg S2 acc done ∧
            compL tgk.g t f (wipeE ρ (own.map (·.2))) (ps.drop (i + 1)) = .ok todo ∧ vs = done ++ todo, fun H' h => ⟨m - 1, by omega, by omega, h⟩, fun x H'' y => ?_⟩
          obtain ⟨S3, e3, r3⟩ := w3 i x H'' _ (List.getElem?_eq_getElem hi) y
          have n3 : S3 D = none := e3.keepNone n2 a2
          have a3 : H'' D = some (.lst acc) := e3.h _ _ a2
          have R3 : Rel K mg B S3 (L2.wipe σ (own.map (·.2))) H'' (wipeE ρ (own.map (·.2))) := R1.ext (e2.trans e3)
          cases zg : tgk.g ps[i] (wipeE ρ (own.map (·.2))) with
          | ok ρ2 =>
            simp only [zg, nox_ok, R.bind_ok] at c2
            refine Tg.ok tgk hv h0 R3 r3 zg fun σ2 hw R4 => ⟨by rw [hw, wipe_wipe], ρ2, S3, R4, ?_⟩
            cases zt : t ρ2 with
            | ok b =>
              simp only [zt, nox_ok, R.bind_ok] at c2
              intro S4 H4 e4
              have n4 : S4 D = none := e4.keepNone n3 a3
              have a4 : H4 D = some (.lst acc) := e4.h _ _ a3
              cases b with
              | false =>
                rw [if_neg Bool.false_ne_true] at c2 ⊢
                exact ⟨S4, acc, done, todo, (e2.trans e3).trans e4, n4, a4, (r2.mono e3.s).mono e4.s, c2, hv2⟩
              | true =>
                rw [if_pos rfl] at c2 ⊢
                refine ⟨ρ2, S4, R4.ext e4, ?_⟩
                cases zf : f ρ2 with
                | ok v =>
                  simp only [zf, nox_ok, R.bind_ok] at c2
                  cases zr : compL tgk.g t f (wipeE ρ (own.map (·.2))) (ps.drop (i + 1)) with
                  | ok td =>
                    rw [zr] at c2; cases c2
                    intro yv S5 H5 e5 r5
                    have n5 : S5 D = none := e5.keepNone n4 a4
                    have a5 : H5 D = some (.lst acc) := e5.h _ _ a4
                    have ee : Ext S' H1 S5 H5 := ((e2.trans e3).trans e4).trans e5
                    have rr : Reps K mg S5 acc done := ((r2.mono e3.s).mono e4.s).mono e5.s
                    refine ⟨acc, a5, ?_, S5, acc ++ [yv], done ++ [v], td, ⟨ee.s, same_upd ee.h hD, same_upd ee.sh n5, ee.fr⟩, n5, upd_same, rr.append (.one r5), rfl, by rw [hv2]; simp⟩
                    have := rr.length
                    have h2 := congrArg List.length hv2
                    simp only [List.length_append, List.length_cons] at h2
                    omega
                  | exc x => rw [zr] at c2; cases c2
                  | bad => rw [zr] at c2; cases c2
                | exc x => simp only [zf, nox_exc, R.bind_bad] at c2; cases c2
                | bad => simp only [zf, nox_bad, R.bind_bad] at c2; cases c2
            | exc x => simp only [zt, nox_exc, R.bind_bad] at c2; cases c2
            | bad => simp only [zt, nox_bad, R.bind_bad] at c2; cases c2
          | exc x => simp only [zg, nox_exc, R.bind_bad] at c2; cases c2
          | bad => simp only [zg, nox_bad, R.bind_bad] at c2; cases c2
        · have e : i = ps.length := by omega
          subst e
          rw [List.drop_length] at c2
          cases c2
          rw [List.append_nil] at hv2
          subst hv2
          exact .inl ⟨w2, q (.ref D) [D] S2 H2 (e1.trans e2) (.ow n2 (e1.h.free hD) a2 r2)⟩
      · exact q.elim
    | exc x =>
      exfalso
      have aux : ∀ (ps : List PV) (y : PX), compL tgk.g t f (wipeE ρ (own.map (·.2))) ps ≠ .exc y := by
        intro ps
        induction ps with
        | nil => intro y h; cases h
        | cons p ps ih =>
          intro y h
          unfold compL at h
          cases zg : tgk.g p (wipeE ρ (own.map (·.2))) with
          | ok ρ2 =>
            simp only [zg, nox_ok, R.bind_ok] at h
            cases zt : t ρ2 with
            | ok b =>
              simp only [zt, nox_ok, R.bind_ok] at h
              cases b with
              | false => rw [if_neg Bool.false_ne_true] at h; exact ih y h
              | true =>
                rw [if_pos rfl] at h
                cases zf : f ρ2 with
                | ok v =>
                  simp only [zf, nox_ok, R.bind_ok] at h
                  cases zr : compL tgk.g t f (wipeE ρ (own.map (·.2))) ps with
                  | ok td => rw [zr] at h; cases h
                  | exc w => exact ih w zr
                  | bad => rw [zr] at h; cases h
                | exc w => simp only [zf, nox_exc, R.bind_bad] at h; cases h
                | bad => simp only [zf, nox_bad, R.bind_bad] at h; cases h
            | exc w => simp only [zt, nox_exc, R.bind_bad] at h; cases h
            | bad => simp only [zt, nox_bad, R.bind_bad] at h; cases h
          | exc w => simp only [zg, nox_exc, R.bind_bad] at h; cases h
          | bad => simp only [zg, nox_bad, R.bind_bad] at h; cases h
      exact aux ps x z2
    | bad => rw [z2] at q; exact q.elim
  | exc x => rw [z] at q; exact q
  | bad => rw [z] at q; exact q
theorem f_lc {elt tg iter : Expr} {ifs : List Expr} {scope : Scope} {own : List (Str × Nat)} {pos : Pos} {it : Env → R (List PV)} {t : Env → R Bool} {f : Env → R PV} (tgk : Tg)
    (hc : X.calm = true) (hN : X.N.Nodup) (h0 : ∀ i ∈ own.map (·.2), B.me = none ∨ i ≠ 0) (hv : ∀ i ∈ tgk.ixs, i ∈ own.map (·.2)) (hi : EI X B W tg iter it) (ok : BlkOk X.N X.env.scope scope own)
    (hg : ∀ (s : Shared) (H : Hp) (C : Addr) (cl : List (Str × Addr)) (fp : List Addr), PG (X.blk s H scope (compEnvC scope cl C X.env) fp) tg (tgk.t X.K))
    (ht : ∀ (s : Shared) (H : Hp) (C : Addr) (cl : List (Str × Addr)) (fp : List Addr), EQ (X.blk s H scope (compEnvC scope cl C X.env) fp) B W0 ifs t)
    (he : ∀ (s : Shared) (H : Hp) (C : Addr) (cl : List (Str × Addr)) (fp : List Addr), EE (X.blk s H scope (compEnvC scope cl C X.env) fp) B W0 elt f) (hs : ∀ x, foldedSetIterable iter X.env x = pure x := by intro _; rfl) :
    EF X B W (.ListComp elt [⟨tg, iter, ifs, 0⟩] scope pos) (pComp (own.map (·.2)) it tgk.g t f) :=
  PE.imp (pe_lc (tt := tT X.K X.mg B W0 t) (te := eT X.K X.mg B W0 f) hc hN hi ok hg ht he hs) fun σ H Q ⟨ρ, S, Rl, q⟩ => lc_read tgk h0 hv Rl q
/-- y = [..] on one line, y a local: c what becomes of the list's slot -/
theorem s_setlcG (i : Nat) (fr : List Nat) {f' : Env → R Slot} {y : Str} {py : Pos} {elt tg iter : Expr} {ifs : List Expr} {scope : Scope} {own : List (Str × Nat)} {pos spos : Pos} {it : Env → R (List PV)} {t : Env → R Bool} {f : Env → R PV} (tgk : Tg)
    (hc : X.calm = true) (hN : X.N.Nodup) (h0 : ∀ i ∈ own.map (·.2), B.me = none ∨ i ≠ 0) (hv : ∀ i ∈ tgk.ixs, i ∈ own.map (·.2)) (hi : EI X B W tg iter it) (ok : BlkOk X.N X.env.scope scope own)
    (hg : ∀ (s : Shared) (H : Hp) (C : Addr) (cl : List (Str × Addr)) (fp : List Addr), PG (X.blk s H scope (compEnvC scope cl C X.env) fp) tg (tgk.t X.K))
    (ht : ∀ (s : Shared) (H : Hp) (C : Addr) (cl : List (Str × Addr)) (fp : List Addr), EQ (X.blk s H scope (compEnvC scope cl C X.env) fp) B W0 ifs t)
    (he : ∀ (s : Shared) (H : Hp) (C : Addr) (cl : List (Str × Addr)) (fp : List Addr), EE (X.blk s H scope (compEnvC scope cl C X.env) fp) B W0 elt f) (hi0 : B.me = none ∨ i ≠ 0) (hf' : ∀ S H Q E ρ, GoF X.K X.mg S H Q E (f' ρ) → GoF X.K X.mg S H Q E (pComp (own.map (·.2)) it tgk.g t f ρ))
    (hy : X.N[i]? = some y := by rfl) (hyl : X.env.scope.names.lookup y = some .local := by rfl) (hsw : swapsWith (.ListComp elt [⟨tg, iter, ifs, 0⟩] scope pos) (some (.Name y py)) spos.line X.env = pure true := by exact sw_true rfl rfl rfl (by decide +kernel))
    (hs : ∀ x, foldedSetIterable iter X.env x = pure x := by intro _; rfl) :
    ES X B W (.Assign [.Name y py] (.ListComp elt [⟨tg, iter, ifs, 0⟩] scope pos) spos) (sSet i fr f') :=
  PS.imp (ps_setLc (tt := tT X.K X.mg B W0 t) (te := eT X.K X.mg B W0 f) hc hN hy hyl hsw hi ok hg ht he hs) fun D σ H ⟨ρ, S, Rl, q⟩ => by
    obtain ⟨S1, s1, R1⟩ := Rl.frzs fr
    refine lc_read tgk h0 hv R1 (hf' _ _ _ _ _ ?_)
    unfold sSet at q
    cases z : f' (frzs fr ρ) with
    | ok t =>
      rw [z] at q
      intro v fp S' H' e sl
      obtain ⟨S2, s2, _, _, R2⟩ := Rl.back R1 s1 e sl
      exact q _ _ S2 s2 (R2 i hi0)
    | exc x =>
      rw [z] at q
      exact fun cls d S' H' e r => q cls d σ H' S' (s1.trans e.s) (R1.ext e) r
    | bad => rw [z] at q; exact q
end
end Pu
set_option Elab.async false
set_option linter.all false
set_option maxRecDepth 100000
set_option maxHeartbeats 4000000
namespace Pu
open PySem PySem.Spec PyProof.Rows L2

/-! ### stores -/
def sSetIx (i : Nat) (fr : List Nat) (k : Env → R PV) (f : Env → R PV) : Env → O := fun ρ => match (frzs fr ρ)[i]? with
  | some (.ow xs) => (match f (frzs fr ρ) with
    | .ok p => (match k (frzs fr ρ) with
      | .ok (.int j) => (match ixN xs.length j with
        | some n => .nx ((back fr (.sh p) ρ).set i (.ow (xs.set n p)))
        | none => .bad)
      | _ => .bad)
    | .exc x => .exc x (frzs fr ρ)
    | .bad => .bad)
  | _ => .bad
section
variable {X : Cx} {B : Bs} {W : WX} {e e2 k a b : Expr} {es : List Expr} {pos pos' p : Pos} {f f2 : Env → R PV}
theorem s_setix (i : Nat) {x : Str} (fr : List Nat) {fk : Env → R PV} (he : EE X B W e f) (hk : EE X B W k fk) (hN : X.N[i]? = some x := by rfl) (hv : Vis X.env.scope x := by first | exact Or.inl rfl | exact Or.inr (Or.inl rfl) | exact Or.inr (Or.inr rfl)) (hd : (x == ("__debug__" : Str)) = false := by decide)
    (hcd : (x == ("__classdict__" : Str)) = false := by decide)
    (ha : ∀ v, assign (.Subscript (.Name x p) k pos') X.env v = (do
      let ov ← holding [v] (eval (.Name x p) X.env)
      let iv ← holding [v, ov] (eval k X.env)
      standAt pos'
      holding [v, ov, iv] (setItem ov iv v)
      release [v, ov, iv] []) := by intro _; rfl)
    (hs : swapsWithSole [.Subscript (.Name x p) k pos'] e pos.line X.env = pure false := by rfl) (hw : swappedStores [.Subscript (.Name x p) k pos'] e X.env = pure none := by rfl)
    (h1 : (assignEach [.Subscript (.Name x p) k pos'] X.env).map (·.2) = [assign (.Subscript (.Name x p) k pos') X.env] := by rfl) : ES X B W (.Assign [.Subscript (.Name x p) k pos'] e pos) (sSetIx i fr fk f) :=
  PS.imp (ps_asg he (pg_sub (pe_var hN hv hd hcd) hk set_list ha) hs hw h1) fun D σ H ⟨ρ, S, Rl, q⟩ => by
    obtain ⟨S1, s1, R1⟩ := Rl.frzs fr
    refine ⟨frzs fr ρ, S1, R1, ?_⟩
    unfold sSetIx at q
    cases z : (frzs fr ρ)[i]? with
    | none => rw [z] at q; exact q.elim
    | some t =>
      cases t with
      | ow xs =>
        obtain ⟨a, vs, ea, n1, n2, ha, rv⟩ := R1.ows z
        rw [z] at q
        cases z2 : f (frzs fr ρ) with
        | ok p =>
          simp only [z2] at q
          intro v S' H' e r
          refine ⟨_, ea, frzs fr ρ, S', R1.ext e, ?_⟩
          cases z3 : fk (frzs fr ρ) with
          | ok kp =>
            simp only [z3] at q
            cases kp with
            | int j =>
              simp only at q
              cases z4 : ixN xs.length j with
              | some n =>
                simp only [z4] at q
                intro kv S3 H3 e3 r3
                cases r3
                refine ⟨a, vs, j, n, rfl, rfl, e3.h _ _ (e.h _ _ ha), by rw [rv.length]; exact z4, ?_⟩
                obtain ⟨S2, s2, q2, R2, _⟩ := Rl.back R1 s1 (e.trans e3) (SlotOk.sh (H0 := H) (H := H3) (r.mono e3.s))
                have zb := back_ow (t := .sh p) z
                obtain ⟨a', vs', ea', _, _, ha', rv'⟩ := R2.ows zb
                rw [ea] at ea'; cases ea'
                rw [e3.h _ _ (e.h _ _ ha)] at ha'; cases ha'
                cases q2 with
                | sh r2 => exact q σ _ S2 s2 (R2.mutOw zb ea (rv'.set r2 n))
              | none => simp only [z4] at q; exact q.elim
            | _ => exact q.elim
          | exc x => simp only [z3] at q; exact q.elim
          | bad => simp only [z3] at q; exact q.elim
        | exc x =>
          simp only [z2] at q
          exact fun cls d S' H' e r => q cls d σ H' S' (s1.trans e.s) (R1.ext e) r
        | bad => simp only [z2] at q; exact q
      | _ => rw [z] at q; exact q.elim
/-- x op= e, of still values -/
def sAug (i : Nat) (fr : List Nat) (g : PV → PV → R PV) (f : Env → R PV) : Env → O := fun ρ => match gv ρ i with
  | .ok p => (match f (frzs fr ρ) with
    | .ok q => (match g p q with
      | .ok r => .nx ((back fr (.sh r) ρ).set i (.sh r))
      | _ => .bad)
    | .exc x => .exc x (frzs fr ρ)
    | .bad => .bad)
  | _ => .bad
theorem frz1_sh {i j : Nat} {ρ : Env} {p : PV} (h : ρ[i]? = some (.sh p)) : (frz1 j ρ)[i]? = some (.sh p) := by
  unfold frz1
  split
  · by_cases z : j = i
    · subst z; rename_i hy; rw [h] at hy; cases hy
    · rw [List.getElem?_set_ne z]; exact h
  · by_cases z : j = i
    · subst z; rename_i hy; rw [h] at hy; cases hy
    · rw [List.getElem?_set_ne z]; exact h
  · exact h
theorem frzs_sh {i : Nat} {p : PV} : ∀ {fr : List Nat} {ρ : Env}, ρ[i]? = some (.sh p) → (frzs fr ρ)[i]? = some (.sh p)
  | [], _, h => h
  | i :: is, ρ, h => frzs_sh (fr := is) (ρ := frz1 i ρ) (frz1_sh h)
theorem gv_ok {ρ : Env} {i : Nat} {p : PV} (h : gv ρ i = .ok p) : ρ[i]? = some (.sh p) := by
  unfold gv at h
  split at h
  · cases h; assumption
  · cases h
theorem s_aug (i : Nat) {x : Str} (fr : List Nat) {op : Operator} {g : PV → PV → R PV} (ho : BOp X (inplaceOp op) g) (he : EE X B W e f) (h0 : B.me = none ∨ i ≠ 0) (hN : X.N.Nodup) (hi : X.N[i]? = some x := by rfl) (hx : Loc X.env.scope x := by first | exact Or.inl rfl | exact Or.inr rfl)
    (hf : X.fn x = true ∨ X.env.scope.names.lookup x = some .local := by first | exact .inl rfl | exact .inr rfl | assumption) : ES X B W (.AugAssign (.Name x pos') op e pos) (sAug i fr g f) :=
  PS.imp (ps_aug hN hi hx he ho hf) fun D σ H ⟨ρ, S, Rl, q⟩ => by
    obtain ⟨S1, s1, R1⟩ := Rl.frzs fr
    unfold sAug at q
    cases z : gv ρ i with
    | ok p =>
      simp only [z] at q
      obtain ⟨v, ev, rv⟩ := R1.slot (frzs_sh (fr := fr) (gv_ok z))
      refine ⟨v, ev, frzs fr ρ, S1, R1, ?_⟩
      cases z2 : f (frzs fr ρ) with
      | ok q2 =>
        simp only [z2] at q
        intro y S' H' e r
        cases z3 : g p q2 with
        | ok r3 =>
          simp only [z3] at q
          refine ⟨S', p, q2, e.sh, rv.mono e.s, r, ?_⟩
          rw [z3]
          intro w S4 H4 e4 r4
          obtain ⟨S2, s2, _, _, R2⟩ := Rl.back R1 s1 (e.trans e4) (SlotOk.sh (H0 := H) (H := H4) r4)
          exact q _ _ S2 s2 (R2 i h0)
        | exc x => simp only [z3] at q; exact q.elim
        | bad => simp only [z3] at q; exact q.elim
      | exc x =>
        simp only [z2] at q
        exact fun cls d S' H' e r => q cls d σ H' S' (s1.trans e.s) (R1.ext e) r
      | bad => simp only [z2] at q; exact q
    | exc x => simp only [z] at q; exact q.elim
    | bad => simp only [z] at q; exact q.elim
/-- a, b = e1, e2 -/
def sPar (i j : Nat) (f1 f2 : Env → R Slot) : Env → O := fun ρ => match f1 ρ with
  | .ok s => (match f2 ρ with
    | .ok t => .nx ((ρ.set i s).set j t)
    | .exc x => .exc x ρ
    | .bad => .bad)
  | .exc x => .exc x ρ
  | .bad => .bad
theorem s_par (i j : Nat) {x y : Str} {px py pt : Pos} {kt k2 pt2} {f1 f2 : Env → R Slot} (h1 : EF X B W a f1) (h2 : EF X B W b f2) (hi0 : B.me = none ∨ i ≠ 0) (hj0 : B.me = none ∨ j ≠ 0) (hc : X.calm = true) (hN : X.N.Nodup) (hi : X.N[i]? = some x := by rfl) (hj : X.N[j]? = some y := by rfl) (hij : i ≠ j := by decide)
    (hx : X.env.scope.names.lookup x = some .local := by rfl) (hy : X.env.scope.names.lookup y = some .local := by rfl)
    (hw : swappedStores [.Tuple [.Name x px, .Name y py] kt pt] (.Tuple [a, b] k2 pt2) X.env = pure (some [x, y]) := by rfl)
    (hs : swapsWithSole [.Tuple [.Name x px, .Name y py] kt pt] (.Tuple [a, b] k2 pt2) pos.line X.env = pure false := by rfl)
    (hs1 : starEach [a, b] X.env = (false, eval a X.env) :: starEach [b] X.env := by rfl) (hs2 : starEach [b] X.env = (false, eval b X.env) :: starEach [] X.env := by rfl) :
    ES X B W (.Assign [.Tuple [.Name x px, .Name y py] kt pt] (.Tuple [a, b] k2 pt2) pos) (sPar i j f1 f2) :=
  PS.imp (ps_par hc hN hi hj hij hx hy (pa_cons h1 (pa_cons h2 pa_nil hs2) hs1) hw hs) fun D σ H ⟨ρ, S, Rl, q⟩ => by
    refine ⟨ρ, S, Rl, ?_⟩
    unfold sPar at q
    cases z : f1 ρ with
    | ok s =>
      simp only [z] at q
      intro v1 fp1 S1 H1 e1 q1
      refine ⟨ρ, S1, Rl.ext e1, ?_⟩
      cases z2 : f2 ρ with
      | ok t =>
        simp only [z2] at q
        intro v2 fp2 S2 H2 e2 q2
        refine ⟨v1, v2, rfl, ?_⟩
        refine q _ H2 S2 (e1.s.trans e2.s) ?_
        obtain ⟨fp, Rf⟩ := Rl
        have Ra := Rf.putNew e1 i q1 hi0
        exact ⟨_, Ra.putNew e2 j q2 hj0⟩
      | exc x =>
        simp only [z2] at q
        exact fun cls d S' H' e r => q cls d σ H' S' (e1.s.trans e.s) ((Rl.ext e1).ext e) r
      | bad => simp only [z2] at q; exact q
    | exc x =>
      simp only [z] at q
      exact fun cls d S' H' e r => q cls d σ H' S' e.s (Rl.ext e) r
    | bad => simp only [z] at q; exact q
/-- target = e, the value still -/
def sAsg (fr : List Nat) (g : PV → Env → R Env) (f : Env → R PV) : Env → O := fun ρ => match f (frzs fr ρ) with
  | .ok p => (match g p (back fr (.sh p) ρ) with
    | .ok ρ' => .nx ρ'
    | _ => .bad)
  | .exc x => .exc x (frzs fr ρ)
  | .bad => .bad
theorem s_asg {tg : Expr} (fr : List Nat) {g : PV → Env → R Env} (he : EE X B W e f) (hg : EG X B tg g) (hs : swapsWithSole [tg] e pos.line X.env = pure false := by rfl) (hw : swappedStores [tg] e X.env = pure none := by rfl)
    (h1 : (assignEach [tg] X.env).map (·.2) = [assign tg X.env] := by rfl) : ES X B W (.Assign [tg] e pos) (sAsg fr g f) :=
  PS.imp (ps_asg he hg hs hw h1) fun D σ H ⟨ρ, S, Rl, q⟩ => by
    obtain ⟨S1, s1, R1⟩ := Rl.frzs fr
    refine ⟨frzs fr ρ, S1, R1, ?_⟩
    unfold sAsg at q
    cases z : f (frzs fr ρ) with
    | ok p =>
      simp only [z] at q
      intro v S' H' e r
      obtain ⟨S2, s2, q2, R2, _⟩ := Rl.back R1 s1 e (SlotOk.sh (H0 := H) (H := H') r)
      cases q2 with
      | sh r2 =>
        refine ⟨p, _, S2, R2, r2, ?_⟩
        cases zg : g p (back fr (.sh p) ρ) with
        | ok ρ' =>
          simp only [zg] at q
          exact fun σ3 S3 H3 e3 _ R3 => q σ3 H3 S3 (s2.trans e3) R3
        | exc x => simp only [zg] at q; exact q.elim
        | bad => simp only [zg] at q; exact q.elim
    | exc x =>
      simp only [z] at q
      exact fun cls d S' H' e r => q cls d σ H' S' (s1.trans e.s) (R1.ext e) r
    | bad => simp only [z] at q; exact q

/-! ### raise, try -/
def sRaise (x : PX) : Env → O := fun ρ => .exc x ρ
theorem s_raise0 {c : Str} {cls : Value} (hc : X.calm = true) (tk : Takes X W) (he : PMk X e (fun _ H Q => Q cls none H)) (hm : X.mg c = some cls) : ES X B W (.Raise (some e) none pos) (sRaise ⟨c, []⟩) :=
  PS.imp (ps_raise hc tk he) fun D σ H ⟨ρ, S, Rl, q⟩ => q cls none σ H S (Same.refl _) Rl ⟨hm, .inl ⟨rfl, rfl⟩⟩
def noxO (o : O) : O := match o with
  | .exc _ _ => .bad
  | o => o
@[simp] theorem noxO_rt (p : PV) (ρ : Env) : noxO (.rt p ρ) = .rt p ρ := rfl
@[simp] theorem noxO_nx (ρ : Env) : noxO (.nx ρ) = .nx ρ := rfl
@[simp] theorem noxO_exc (x : PX) (ρ : Env) : noxO (.exc x ρ) = .bad := rfl
@[simp] theorem noxO_bad : noxO .bad = .bad := rfl
def sTry (tbl : List (Str × Bool)) (fb fs : Env → O) : Env → O := fun ρ => match fb ρ with
  | .exc x ρ' => (match tbl.lookup x.c with
    | some true => noxO (fs ρ')
    | some false => .exc x ρ'
    | none => .bad)
  | o => o
/-- which of the classes an except clause takes -/
def Catch (K : PySem.W.Frag) (mg : Str → Option Value) (c : Value) (tbl : List (Str × Bool)) : Prop := ∀ y b, tbl.lookup y = some b → ∃ cls, mg y = some cls ∧ PySem.W.exmOne K cls c = some b
theorem s_try {x : Str} {c : Value} {body suite : List Stmt} {b₀ : Stmt} {np : Pos} {fb fs : Env → O} (tbl : List (Str × Bool)) (hc : Names X x c) (tk : Takes X W) (ct : Catch X.K X.mg c tbl)
    (hb : ∀ (W : WX) (pn : List (Addr × Obj)) (xe : Value → Shared → Prop), Takes (X.tr pn xe) W → PassesOwn (model X.prog X.w) X.A X.env xe → EB (X.tr pn xe) B W body fb)
    (hsu : ∀ (a : Addr) (oe : Obj) (cls : Value) (d : Option Addr) (pn : List (Addr × Obj)), Zc cls d oe → (∃ vs, oe.data = .fields vs) → EB (X.suite a ((a, oe) :: pn)) B W0 (b₀ :: suite) fs)
    (hs : X.stack = X.env :: X.outer := by rfl) (hf : X.env.frame = some X.env.locals := by rfl) :
    ES X B W (.Try body [.ExceptHandler (some (.Name x np)) none (b₀ :: suite) pos'] [] [] pos) (sTry tbl fb fs) :=
  PS.imp (ps_try_only (tb := fun W => sT X.K X.mg B W fb) (ts := fun _ _ _ => sT X.K X.mg B W0 fs) hs hf hc tk (fun W pn xe t p => hb W pn xe t p) (fun a oe cls d pn z h => hsu a oe cls d pn z h)) fun D σ H ⟨ρ, S, Rl, q⟩ => by
    refine ⟨ρ, S, Rl, ?_⟩
    unfold sTry at q
    cases z : fb ρ with
    | exc x ρ' =>
      simp only [z] at q
      intro cls d σ' H' S' s' R' rx
      cases zl : tbl.lookup x.c with
      | none => simp only [zl] at q; exact q.elim
      | some b =>
        obtain ⟨cls', hm, hx⟩ := ct _ _ zl
        obtain ⟨hm', rx'⟩ := id rx
        rw [hm] at hm'; cases hm'
        cases b with
        | true =>
          simp only [zl] at q
          refine ⟨true, hx, fun _ a ha => ⟨ρ', S', R', ?_⟩, (fun h => nomatch h)⟩
          have q := GoS.later s' q
          cases zs : fs ρ' with
          | exc y ρ2 => rw [zs] at q; exact q.elim
          | _ => rw [zs] at q; exact q
        | false =>
          simp only [zl] at q
          exact ⟨false, hx, (fun h => nomatch h), fun _ => q cls d σ' H' S' s' R' rx⟩
    | _ => simp only [z] at q; exact q
end
end Pu
set_option Elab.async false
set_option linter.all false
set_option maxRecDepth 100000
set_option maxHeartbeats 4000000
namespace Pu
open PySem PySem.Spec PyProof.Rows L2

/-! ### fields -/
section
variable {K : PySem.W.Frag} {mg : Str → Option Value} {S H0 H : Hp}
theorem look_rep : ∀ {fv : List (Str × V)} {fs : List (Str × PV)} {f : Str} {p : PV}, fv.map Prod.fst = fs.map Prod.fst → Reps K mg S (fv.map Prod.snd) (fs.map Prod.snd) → fs.lookup f = some p → ∃ v, fv.lookup f = some v ∧ Rep K mg S v p
  | [], [], _, _, _, _, h => by cases h
  | [], _ :: _, _, _, h, _, _ => by cases h
  | _ :: _, [], _, _, h, _, _ => by cases h
  | (k, v) :: fv, (k', q) :: fs, f, p, hk, r, h => by
    simp only [List.map_cons, List.cons.injEq] at hk
    obtain ⟨rfl, hk⟩ := hk
    cases r with
    | cons r1 r2 =>
      simp only [List.lookup_cons] at h ⊢
      cases e : f == k with
      | true => rw [e] at h; cases h; exact ⟨v, rfl, r1⟩
      | false => rw [e] at h; exact look_rep hk r2 h
theorem look_none {α β : Type} : ∀ {fv : List (Str × α)} {fs : List (Str × β)} {f : Str}, fv.map Prod.fst = fs.map Prod.fst → fs.lookup f = none → fv.lookup f = none
  | [], [], _, _, _ => rfl
  | [], _ :: _, _, h, _ => by cases h
  | _ :: _, [], _, h, _ => by cases h
  | (k, v) :: fv, (k', q) :: fs, f, hk, h => by
    simp only [List.map_cons, List.cons.injEq] at hk
    obtain ⟨rfl, hk⟩ := hk
    simp only [List.lookup_cons] at h ⊢
    cases e : f == k with
    | true => rw [e] at h; cases h
    | false => rw [e] at h; exact look_none hk h
theorem FldsOk.keys : ∀ {fv : List (Str × V)} {fs : List (Str × Slot)} {fp : List Addr}, FldsOk K mg S H0 H fv fs fp → fv.map Prod.fst = fs.map Prod.fst
  | _, _, _, .nil => rfl
  | _, _, _, .cons _ r _ => by simp only [List.map_cons, r.keys]
theorem FldsOk.look : ∀ {fv : List (Str × V)} {fs : List (Str × Slot)} {fp : List Addr} {f : Str} {s : Slot}, FldsOk K mg S H0 H fv fs fp → fs.lookup f = some s → ∃ v g, fv.lookup f = some v ∧ SlotOk K mg S H0 H (some v) s g ∧ ∀ a ∈ g, a ∈ fp
  | _, _, _, _, _, .nil, h => by cases h
  | _, _, _, f, s, .cons (f := k) (v := v) (fp := fp) q r d, h => by
    simp only [List.lookup_cons] at h ⊢
    cases e : f == k with
    | true => rw [e] at h; cases h; exact ⟨v, fp, rfl, q, fun a ha => by simp [ha]⟩
    | false =>
      rw [e] at h
      obtain ⟨w, g, h1, h2, h3⟩ := r.look h
      exact ⟨w, g, h1, h2, fun a ha => by simp [h3 a ha]⟩
def putS (f : Str) (s : Slot) : List (Str × Slot) → List (Str × Slot)
  | [] => [(f, s)]
  | (g, t) :: r => if g = f then (f, s) :: r else (g, t) :: putS f s r
end
def pFldV (c f : Str) : PV → R PV
  | .obj c' fs => if c' = c then (match fs.lookup f with | some p => .ok p | none => .bad) else .bad
  | _ => .bad
def pFld (c f : Str) (g : Env → R PV) : Env → R PV := fun ρ => (g ρ).bind (pFldV c f)
/-- the class named c stands at C -/
structure ClsN (K : PySem.W.Frag) (mg : Str → Option Value) (c : Str) (C : Addr) : Prop where
  mg : mg c = some (.ref C)
  cl : Cls K C
section
variable {X : Cx} {B : Bs} {W : WX} {e e2 k a b o : Expr} {es : List Expr} {pos pos' p apos : Pos} {f f2 : Env → R PV} {C : Addr} {c : Str}
theorem e_fld {n : Str} (T : ClsN X.K X.mg c C) (na : NoAttr X.K C n) (he : EE X B W e f) (hb : attributeBase e n X.env (eval e X.env) = eval e X.env := by rfl) : EE X B W (.Attribute e n pos) (pFld c n f) :=
  PE.imp (pe_fld he hb) fun σ H Q ⟨ρ, S, Rl, q⟩ => ⟨ρ, S, Rl, GoE.at q fun v p S1 H1 e r h => by
    cases r with
    | @obj a C' dx c' fv fs h1 hm hk r =>
      have h' : GoE X.K X.mg S1 H1 Q _ (if c' = c then (match fs.lookup n with | some p => .ok p | none => .bad) else .bad) := h
      clear h
      split at h'
      · rename_i hc
        subst hc
        rw [T.mg] at hm; cases hm
        cases z : fs.lookup n with
        | some p =>
          rw [z] at h'
          obtain ⟨v, hv, rv⟩ := look_rep hk r z
          exact ⟨a, C, dx, fv, v, rfl, e.sh _ _ h1, T.cl, na, hv, GoE.done h' e.sh rv⟩
        | none => rw [z] at h'; exact h'.elim
      · exact h'.elim
    | _ => exact h.elim⟩
/-- a field of the object at slot i -/
def pFldO (i : Nat) (c n : Str) : Env → R PV := fun ρ => match ρ[i]? with
  | some (.sh p) => pFldV c n p
  | some (.oo c' fs) => if c' = c then (match fs.lookup n with | some (.sh p) => .ok p | _ => .bad) else .bad
  | _ => .bad
theorem e_fldo (i : Nat) {n x : Str} (T : ClsN X.K X.mg c C) (na : NoAttr X.K C n) (hN : X.N[i]? = some x := by rfl) (hv : Vis X.env.scope x := by first | exact Or.inl rfl | exact Or.inr (Or.inl rfl) | exact Or.inr (Or.inr rfl)) (hd : (x == ("__debug__" : Str)) = false := by decide)
    (hcd : (x == ("__classdict__" : Str)) = false := by decide) (hb : attributeBase (.Name x p) n X.env (eval (.Name x p) X.env) = eval (.Name x p) X.env := by rfl) : EE X B W (.Attribute (.Name x p) n pos) (pFldO i c n) :=
  ⟨fun pins s σ H Q I ⟨ρ, S, Rl, q⟩ => by
    unfold pFldO at q
    cases h : ρ[i]? with
    | none => rw [h] at q; exact q.elim
    | some t =>
      rw [h] at q
      cases t with
      | sh p =>
        obtain ⟨v, ev, rv⟩ := Rl.slot h
        refine (e_fld (B := B) (W := W) (f := pVar i) T na (e_var i hN hv hd hcd) hb).run pins s σ H Q I ⟨ρ, S, Rl, ?_⟩
        unfold pFld pVar gv
        rw [h]
        exact q
      | oo c' fs =>
        simp only at q
        split at q
        · rename_i hc
          subst hc
          cases z : fs.lookup n with
          | none => rw [z] at q; exact q.elim
          | some t =>
            rw [z] at q
            cases t with
            | sh p =>
              simp only at q
              obtain ⟨fp, Rf⟩ := id Rl
              obtain ⟨v, ev, sl⟩ := Rf.slots i _ h
              generalize fp i = g at sl
              cases sl with
              | @oo a C' dx _ fv _ g h1 h2 h3 m r d =>
                rw [T.mg] at m; cases m
                obtain ⟨w, g', k1, k2, _⟩ := r.look z
                cases k2 with
                | sh rw' => exact (pe_fld (pe_var hN hv hd hcd) hb).run pins s σ H Q I ⟨_, ev, a, C, dx, fv, w, rfl, h3, T.cl, na, k1, GoE.done q Rl.sh rw'⟩
            | _ => exact q.elim
        · exact q.elim
      | _ => exact q.elim⟩

/-! ### methods of still objects -/
theorem pe_methS {CX : CXT} {k : Nat} {fa : Addr} {fd : FuncData} {ps : List Str} {sp : Sp} {E : L2.St → XK} {m : Str} {ta : TE} {t : TA} {pl : Sem Bool} (he : PE X o ta) (cl : Cls X.K C) (hm : Meth X.K C m fa) (F : FnOk X.prog X.w X.K X.mg X.base CX k fa fd ps sp) (hr : Room k X.A) (hb : Binds X.K fd ps []) (hx : ∀ σ, PassesAt CX X σ (E σ)) (ha : PA X (e :: es) t)
    (hst : starEach (e :: es) X.env = (false, eval e X.env) :: starEach es X.env := by rfl) (hpl : (backTo pos (starEach es X.env)).any (·.1) = false := by rfl)
    (ht : eval (.Call (.Attribute o m apos) (e :: es) [] pos) X.env = (do
      let ov ← eval o X.env
      standAt apos.atName
      let (f, first) ← holding [ov] (getMethod ov m pl)
      callWith pos f first (backTo pos (starEach (e :: es) X.env)) (backToKw pos (keywordEach [] X.env))) := by rfl) :
    PE X (.Call (.Attribute o m apos) (e :: es) [] pos) (fun σ H Q => ta σ H fun x H1 => ∃ a dx fs, x = .ref a ∧ H1 a = some (.ins C dx fs) ∧ fs.lookup m = none ∧ t σ H1 fun vs H2 => sp (x :: vs) H2 Q (E σ)) := by
  refine ⟨fun pins s σ H Q I h => ?_⟩
  refine PySem.W.methodCall_KW (pl := pl) (thn (he.run pins s σ H _ I h) fun u s1 ⟨x, H1, I1, rx, a, dx, fs, ex, ea, l, q⟩ => ?_) ht
  subst ex
  obtain rfl : u = Value.ref a := rx
  refine getmeth_ok I1 ea cl hm l ?_
  refine PySem.W.callWith_K (first := [.ref a]) (h₀ := X.base) I.ok.mod.kin hm.kp (thn (ha.run pos pins s1 σ H1 _ I1 q) fun us s2 ⟨vs, H2, I2, r, q2⟩ => ⟨I2.kIn, ?_⟩) hst hpl
  exact run_fnS (us := .ref a :: us) (vs := .ref a :: vs) F hr hb (hx σ) I2 (.cons rfl r) q2
theorem pe_methS0 {CX : CXT} {k : Nat} {fa : Addr} {fd : FuncData} {ps : List Str} {sp : Sp} {E : L2.St → XK} {m : Str} {ta : TE} {pl : Sem Bool} (he : PE X o ta) (cl : Cls X.K C) (hm : Meth X.K C m fa) (F : FnOk X.prog X.w X.K X.mg X.base CX k fa fd ps sp) (hr : Room k X.A) (hb : Binds X.K fd ps []) (hx : ∀ σ, PassesAt CX X σ (E σ))
    (ht : eval (.Call (.Attribute o m apos) [] [] pos) X.env = (do
      let ov ← eval o X.env
      standAt apos.atName
      let (f, first) ← holding [ov] (getMethod ov m pl)
      callWith pos f first (backTo pos (starEach [] X.env)) (backToKw pos (keywordEach [] X.env))) := by rfl) :
    PE X (.Call (.Attribute o m apos) [] [] pos) (fun σ H Q => ta σ H fun x H1 => ∃ a dx fs, x = .ref a ∧ H1 a = some (.ins C dx fs) ∧ fs.lookup m = none ∧ sp [x] H1 Q (E σ)) := by
  refine ⟨fun pins s σ H Q I h => ?_⟩
  refine PySem.W.methodCall_KW (pl := pl) (thn (he.run pins s σ H _ I h) fun u s1 ⟨x, H1, I1, rx, a, dx, fs, ex, ea, l, q⟩ => ?_) ht
  subst ex
  obtain rfl : u = Value.ref a := rx
  refine getmeth_ok I1 ea cl hm l ?_
  exact PySem.W.callWith_K0 (first := [.ref a]) I1.kIn hm.kp (run_fnS (us := [.ref a]) (vs := [.ref a]) F hr hb (hx σ) I1 (.cons rfl .nil) q)
end
structure MCallee (P : Program) (w : World) (K : PySem.W.Frag) (mg : Str → Option Value) (base : Heap) (k : Nat) (c m : Str) (mf : List PV → R PV) : Prop where
  ex : ∃ C f fd ps, ClsN K mg c C ∧ Meth K C m f ∧ FnOk P w K mg base (L2.CX P w) k f fd ps (spP K mg mf) ∧ Binds K fd ps []
theorem MCallee.mono {P : Program} {w : World} {K : PySem.W.Frag} {mg : Str → Option Value} {base : Heap} {j k : Nat} {c x : Str} {m : List PV → R PV} (h : MCallee P w K mg base j c x m) (hjk : j ≤ k) : MCallee P w K mg base k c x m := by
  obtain ⟨C, f, fd, ps, T, M, F, b⟩ := h.ex
  exact ⟨C, f, fd, ps, T, M, F.mono hjk, b⟩
def pMeth (c m : Str) (mf : List PV → R PV) (g : Env → R PV) (fs : Env → R (List PV)) : Env → R PV := fun ρ => (g ρ).bind fun p => match p with
  | .obj c' fl => if c' = c ∧ (fl.lookup m).isNone = true then (fs ρ).bind fun ps => mf (p :: ps) else .bad
  | _ => .bad
section
variable {X : Cx} {B : Bs} {W : WX} {e e2 k a b o : Expr} {es : List Expr} {pos pos' p apos : Pos} {f f2 g : Env → R PV} {C : Addr} {c : Str} {fs : Env → R (List PV)}
theorem meth_go {k : Nat} {m : Str} {mf : List PV → R PV} {σ : L2.St} {H : Hp} {Q : VK} (Cc : ∃ fa fd ps, ClsN X.K X.mg c C ∧ Meth X.K C m fa ∧ FnOk X.prog X.w X.K X.mg X.base (L2.CX X.prog X.w) k fa fd ps (spP X.K X.mg mf) ∧ Binds X.K fd ps []) {t : TA}
    (ht : ∀ {S H Q E' ρ} {k : List PV → R PV} , Rel X.K X.mg B S σ H ρ → GoE X.K X.mg S H Q (fun cls d H' => W cls d σ H') ((fs ρ).bind k) → (∀ vs ps S1 H1, Ext S H S1 H1 → Reps X.K X.mg S1 vs ps → GoE X.K X.mg S1 H1 Q (fun cls d H' => W cls d σ H') (k ps) → E' vs H1) → t σ H E')
    (q : ∃ ρ S, Rel X.K X.mg B S σ H ρ ∧ GoE X.K X.mg S H Q (fun cls d H' => W cls d σ H') (pMeth c m mf g fs ρ)) :
    eT X.K X.mg B W g σ H fun x H1 => ∃ a dx fl, x = .ref a ∧ H1 a = some (.ins C dx fl) ∧ fl.lookup m = none ∧ t σ H1 fun vs H2 => spP X.K X.mg mf (x :: vs) H2 Q (WE W σ) := by
  obtain ⟨ρ, S, Rl, q⟩ := q
  obtain ⟨fa, fd, ps, T, _, _, _⟩ := Cc
  refine ⟨ρ, S, Rl, GoE.at q fun v p S1 H1 e r h => ?_⟩
  cases r with
  | @obj a C' dx c' fv fl h1 hm hk r =>
    have h' : GoE X.K X.mg S1 H1 Q _ (if c' = c ∧ (fl.lookup m).isNone = true then (fs ρ).bind fun ps => mf (.obj c' fl :: ps) else .bad) := h
    clear h
    split at h'
    · rename_i hc
      obtain ⟨hc, hn⟩ := hc
      subst hc
      rw [T.mg] at hm; cases hm
      refine ⟨a, dx, fv, rfl, e.sh _ _ h1, look_none hk (by simpa using hn), ?_⟩
      exact ht (Rl.ext e) h' fun vs ps S2 H2 e2 r2 h2 => ⟨S2, _, e2.sh, .cons (Rep.mono e2.s (.obj h1 T.mg hk r)) r2, h2⟩
    · exact h'.elim
  | _ => exact h.elim
theorem e_meth {k : Nat} {m : Str} {mf : List PV → R PV} {pl : Sem Bool} (Cc : MCallee X.prog X.w X.K X.mg X.base k c m mf) (hr : Room k X.A) (px : Px X W) (ho : EE X B W o g) (ha : EA X B W (e :: es) fs)
    (hst : starEach (e :: es) X.env = (false, eval e X.env) :: starEach es X.env := by rfl) (hpl : (backTo pos (starEach es X.env)).any (·.1) = false := by rfl)
    (ht : eval (.Call (.Attribute o m apos) (e :: es) [] pos) X.env = (do
      let ov ← eval o X.env
      standAt apos.atName
      let (f, first) ← holding [ov] (getMethod ov m pl)
      callWith pos f first (backTo pos (starEach (e :: es) X.env)) (backToKw pos (keywordEach [] X.env))) := by rfl) : EE X B W (.Call (.Attribute o m apos) (e :: es) [] pos) (pMeth c m mf g fs) := by
  obtain ⟨C, fa, fd, ps, T, M, F, b⟩ := Cc.ex
  exact PE.imp (pe_methS (E := WE W) ho T.cl M F hr b px ha hst hpl ht) fun σ H Q q => meth_go ⟨fa, fd, ps, T, M, F, b⟩ (fun Rl h hk => ⟨_, _, Rl, GoA.at h hk⟩) q
theorem e_meth0 {k : Nat} {m : Str} {mf : List PV → R PV} {pl : Sem Bool} (Cc : MCallee X.prog X.w X.K X.mg X.base k c m mf) (hr : Room k X.A) (px : Px X W) (ho : EE X B W o g)
    (ht : eval (.Call (.Attribute o m apos) [] [] pos) X.env = (do
      let ov ← eval o X.env
      standAt apos.atName
      let (f, first) ← holding [ov] (getMethod ov m pl)
      callWith pos f first (backTo pos (starEach [] X.env)) (backToKw pos (keywordEach [] X.env))) := by rfl) : EE X B W (.Call (.Attribute o m apos) [] [] pos) (pMeth c m mf g pNil) := by
  obtain ⟨C, fa, fd, ps, T, M, F, b⟩ := Cc.ex
  exact PE.imp (pe_methS0 (E := WE W) ho T.cl M F hr b px ht) fun σ H Q q => meth_go (fs := pNil) (t := tNil) ⟨fa, fd, ps, T, M, F, b⟩ (fun Rl h hk => hk [] [] _ _ (Ext.refl Rl.sh) .nil h) q
end
end Pu
set_option Elab.async false
set_option linter.all false
set_option maxRecDepth 100000
set_option maxHeartbeats 4000000
namespace Pu
open PySem PySem.Spec PyProof.Rows L2

/-! ### defs -/
/-- a def's pure function: n parameters, l slots -/
def mOf (n l : Nat) (fb : Env → O) : List PV → R PV := fun ps => if ps.length = n then (match fb (ps.map Slot.sh ++ List.replicate (l - n) Slot.un) with
  | .nx _ => .ok .non
  | .rt p _ => .ok p
  | .exc x _ => .exc x
  | _ => .bad) else .bad
section
variable {P : Program} {w : World} {K : PySem.W.Frag} {mg : Str → Option Value} {base : Heap}
theorem GoE.notbad {S H : Hp} {Q : VK} {E : XK} {r : R PV} (h : GoE K mg S H Q E r) : r ≠ .bad := fun e => by rw [e] at h; exact h
theorem start_rel {S H : Hp} {vs : List V} {ps : List PV} {N : List Str} (e : Same S H) (r : Reps K mg S vs ps) : Rel K mg ⟨S, H, none⟩ S (L2.start N vs) H (ps.map Slot.sh ++ List.replicate (N.length - ps.length) Slot.un) := by
  have hl := r.length
  refine ⟨fun _ => [], Same.refl _, e, Same.refl _, fun a o h => .inl h, by simp [L2.start, hl], fun i s hs => ?_, (fun i j a _ _ h => by cases h), (fun a h => by cases h)⟩
  unfold L2.start
  by_cases hi : i < ps.length
  · rw [List.getElem?_append_left (by simpa using hi)] at hs
    rw [List.getElem?_append_left (by simpa [hl] using hi)]
    rw [List.getElem?_map, List.getElem?_eq_getElem hi] at hs
    cases hs
    obtain ⟨v, h1, h2⟩ := r.get (List.getElem?_eq_getElem hi)
    exact ⟨some v, by rw [List.getElem?_map, h1]; rfl, .sh h2⟩
  · rw [List.getElem?_append_right (by simpa using hi)] at hs
    have hs' := hs
    rw [List.getElem?_replicate] at hs
    split at hs
    · rename_i hlt
      cases hs
      rw [List.getElem?_append_right (by simp [hl]; omega)]
      refine ⟨none, ?_, .un⟩
      rw [List.getElem?_replicate]
      simp only [List.length_map] at hlt ⊢
      rw [if_pos (by omega)]
    · cases hs
/-- THE RULE for a def: its body's pure function -/
theorem def_fn {x qual : Str} {st : Stmt} {f : Addr} {fd : FuncData} {N ps : List Str} {k : Nat} (fb : Env → O) (F : Fun K x qual st f fd) (Sc : FnScope N ps (defScope st))
    (hb : ∀ (cdv : Value) (A : Around) (outer : List PySem.Env) (s : Shared) (H : Hp) (E : XK) (B : Bs), Room k (A.deeper (envOfC qual (defScope st) s.heap.objs.size f cdv)) → B.me = none →
      EB (cxOf (L2.CX P w) P w K mg base N qual (defScope st) f cdv A outer s H E) B (fun cls d _ H => E cls d H) (defBody st) fb) : FnOk P w K mg base (L2.CX P w) (k + 1) f fd ps (spP K mg (mOf ps.length N.length fb)) := by
  refine F.okX Sc (fun vs H Q E h => ?_) (fun cdv A outer s H vs Q E hr h => ?_)
  · obtain ⟨S, qs, e, r, h⟩ := h
    rw [r.length]
    by_cases hl : qs.length = ps.length
    · exact hl
    · exact absurd (by unfold mOf; rw [if_neg hl]) h.notbad
  · obtain ⟨S, qs, e, r, h⟩ := h
    refine ⟨_, hb cdv A outer s H E ⟨S, H, none⟩ hr rfl, ?_⟩
    unfold mOf at h
    split at h
    · rename_i hl
      refine ⟨_, S, start_rel e r, ?_⟩
      rw [hl]
      cases z : fb (qs.map Slot.sh ++ List.replicate (N.length - ps.length) Slot.un) with
      | nx ρ => rw [z] at h; exact fun σ H' S' s' R => h .non S' H' R.whole .non
      | rt p ρ => rw [z] at h; exact fun v σ H' S' s' R rv => h v S' H' R.whole rv
      | exc x ρ => rw [z] at h; exact fun cls d σ H' S' s' R rx => h cls d S' H' R.whole rx
      | bk ρ => rw [z] at h; exact h.elim
      | ct ρ => rw [z] at h; exact h.elim
      | bad => rw [z] at h; exact h.elim
    · exact h.elim
theorem callee_of {x qual : Str} {st : Stmt} {f : Addr} {fd : FuncData} {N ps : List Str} {k : Nat} (fb : Env → O) (F : Fun K x qual st f fd) (Sc : FnScope N ps (defScope st)) (hm : mg x = some (.ref f)) (b : Binds K fd ps [])
    (hb : ∀ (cdv : Value) (A : Around) (outer : List PySem.Env) (s : Shared) (H : Hp) (E : XK) (B : Bs), Room k (A.deeper (envOfC qual (defScope st) s.heap.objs.size f cdv)) → B.me = none →
      EB (cxOf (L2.CX P w) P w K mg base N qual (defScope st) f cdv A outer s H E) B (fun cls d _ H => E cls d H) (defBody st) fb) : Callee P w K mg base (k + 1) x (mOf ps.length N.length fb) :=
  ⟨⟨f, fd, ps, def_fn fb F Sc hb, hm, F.kp, b⟩⟩
/-- a def that is not asked to do anything yet: recursion's ground -/
theorem callee_zero {x qual : Str} {st : Stmt} {f : Addr} {fd : FuncData} {ps : List Str} (F : Fun K x qual st f fd) (hm : mg x = some (.ref f)) (b : Binds K fd ps []) (k : Nat) : Callee P w K mg base k x (fun _ => .bad) :=
  ⟨⟨f, fd, ps, ⟨fun vs H Q E ⟨_, _, _, _, h⟩ => h.elim, fun A outer s H args us vs Q E _ _ _ _ ⟨_, _, _, _, h⟩ => h.elim⟩, hm, F.kp, b⟩⟩
/-- a method of a still object -/
theorem mcallee_of {x qual c : Str} {st : Stmt} {f C : Addr} {fd : FuncData} {N ps : List Str} {k : Nat} (fb : Env → O) (F : Fun K x qual st f fd) (Sc : FnScope N ps (defScope st)) (T : ClsN K mg c C) (M : Meth K C x f) (b : Binds K fd ps [])
    (hb : ∀ (cdv : Value) (A : Around) (outer : List PySem.Env) (s : Shared) (H : Hp) (E : XK) (B : Bs), Room k (A.deeper (envOfC qual (defScope st) s.heap.objs.size f cdv)) → B.me = none →
      EB (cxOf (L2.CX P w) P w K mg base N qual (defScope st) f cdv A outer s H E) B (fun cls d _ H => E cls d H) (defBody st) fb) : MCallee P w K mg base (k + 1) c x (mOf ps.length N.length fb) :=
  ⟨⟨C, f, fd, ps, T, M, def_fn fb F Sc hb, b⟩⟩
end

/-! ### an object made -/
/-- __init__'s pure function: the fields that it leaves -/
def mInit (c : Str) (n l : Nat) (fb : Env → O) : List PV → R (List (Str × Slot)) := fun ps => if ps.length + 1 = n then (match fb (Slot.oo c [] :: (ps.map Slot.sh ++ List.replicate (l - n) Slot.un)) with
  | .nx ρ => (match (ρ[0]? : Option Slot) with
    | some (.oo c' fs) => if c' = c then .ok fs else .bad
    | _ => .bad)
  | .rt .non ρ => (match (ρ[0]? : Option Slot) with
    | some (.oo c' fs) => if c' = c then .ok fs else .bad
    | _ => .bad)
  | .exc x _ => .exc x
  | _ => .bad) else .bad
def GoN (K : PySem.W.Frag) (mg : Str → Option Value) (c : Str) (x : Addr) (S H : Hp) (Q : VK) (E : XK) : R (List (Str × Slot)) → Prop
  | .ok fs => ∀ fp S' H', Ext S H S' H' → SlotOk K mg S' H H' (some (.ref x)) (.oo c fs) fp → Q .non H'
  | .exc e => ∀ cls d S' H', Ext S H S' H' → RepX K mg S' cls d e → E cls d H'
  | .bad => False
/-- __init__'s promise -/
def spI (K : PySem.W.Frag) (mg : Str → Option Value) (c : Str) (C : Addr) (mi : List PV → R (List (Str × Slot))) : Sp := fun vs H Q E => ∃ x dx vs' S H1 ps, vs = .ref x :: vs' ∧ H1 x = none ∧ H1 dx = none ∧ dx ≠ x ∧ H = upd (upd H1 dx (.own x)) x (.ins C dx []) ∧ Same S H1 ∧ Reps K mg S vs' ps ∧ GoN K mg c x S H1 Q E (mi ps)
structure Maker (P : Program) (w : World) (K : PySem.W.Frag) (mg : Str → Option Value) (base : Heap) (k : Nat) (c : Str) (mi : List PV → R (List (Str × Slot))) : Prop where
  ex : ∃ C f fd ps, ClsN K mg c C ∧ Mk K C f ∧ FnOk P w K mg base (L2.CX P w) k f fd ps (spI K mg c C mi) ∧ Binds K fd ps []
theorem Maker.mono {P : Program} {w : World} {K : PySem.W.Frag} {mg : Str → Option Value} {base : Heap} {j k : Nat} {c : Str} {m : List PV → R (List (Str × Slot))} (h : Maker P w K mg base j c m) (hjk : j ≤ k) : Maker P w K mg base k c m := by
  obtain ⟨C, f, fd, ps, T, M, F, b⟩ := h.ex
  exact ⟨C, f, fd, ps, T, M, F.mono hjk, b⟩
section
variable {P : Program} {w : World} {K : PySem.W.Frag} {mg : Str → Option Value} {base : Heap}
theorem GoN.notbad {c : Str} {x : Addr} {S H : Hp} {Q : VK} {E : XK} {r : R (List (Str × Slot))} (h : GoN K mg c x S H Q E r) : r ≠ .bad := fun e => by rw [e] at h; exact h
theorem init_rel {c : Str} {C x dx : Addr} {S H : Hp} {vs : List V} {ps : List PV} {N : List Str} (hm : mg c = some (.ref C)) (hx : H x = none) (hd : H dx = none) (e : Same S H) (r : Reps K mg S vs ps) :
    Rel K mg ⟨S, H, some x⟩ S (L2.start N (.ref x :: vs)) (upd (upd H dx (.own x)) x (.ins C dx [])) (Slot.oo c [] :: (ps.map Slot.sh ++ List.replicate (N.length - (ps.length + 1)) Slot.un)) := by
  have hl := r.length
  have up : Same H (upd (upd H dx (.own x)) x (.ins C dx [])) := fun b o q => by
    rw [upd_ne (ne_of_none q hx), upd_ne (ne_of_none q hd)]; exact q
  refine ⟨fun i => if i = 0 then [x] else [], Same.refl _, e.trans up, up, fun a o h => .inl h, by simp [L2.start, hl], fun i s hs => ?_, fun i j a _ _ h1 h2 => ?_, (fun a h => by cases h; rfl)⟩
  · cases i with
    | zero =>
      cases hs
      exact ⟨some (.ref x), rfl, .oo (e.free hx) hx upd_same hm .nil (by simp)⟩
    | succ i =>
      have hs : (ps.map Slot.sh ++ List.replicate (N.length - (ps.length + 1)) Slot.un)[i]? = some s := hs
      have hst : (L2.start N (.ref x :: vs))[i + 1]? = (vs.map some ++ List.replicate (N.length - (vs.length + 1)) none)[i]? := rfl
      rw [hst, if_neg (Nat.succ_ne_zero i)]
      by_cases hi : i < ps.length
      · rw [List.getElem?_append_left (by simpa using hi)] at hs
        rw [List.getElem?_append_left (by simpa [hl] using hi)]
        rw [List.getElem?_map, List.getElem?_eq_getElem hi] at hs
        cases hs
        obtain ⟨v, h1, h2⟩ := r.get (List.getElem?_eq_getElem hi)
        exact ⟨some v, by rw [List.getElem?_map, h1]; rfl, .sh h2⟩
      · rw [List.getElem?_append_right (by simpa using hi), List.getElem?_replicate] at hs
        split at hs
        · rename_i hlt
          cases hs
          rw [List.getElem?_append_right (by simp [hl]; omega), List.getElem?_replicate]
          simp only [List.length_map] at hlt ⊢
          rw [if_pos (by omega)]
          exact ⟨none, rfl, .un⟩
        · cases hs
  · by_cases hi : i = 0
    · by_cases hj : j = 0
      · rw [hi, hj]
      · simp [hj] at h2
    · simp [hi] at h1
theorem init_end {c : Str} {B : Bs} {S H : Hp} {σ : L2.St} {ρ : Env} {x : Addr} {fs : List (Str × Slot)} (R : Rel K mg B S σ H ρ) (hme : B.me = some x) (h : ρ[0]? = some (.oo c fs)) : ∃ fp, SlotOk K mg S B.H0 H (some (.ref x)) (.oo c fs) fp := by
  obtain ⟨fp, R⟩ := R
  obtain ⟨v, ev, q⟩ := R.slots 0 _ h
  rw [R.me x hme] at ev; cases ev
  exact ⟨_, q⟩
theorem init_fn {x qual c : Str} {st : Stmt} {f C : Addr} {fd : FuncData} {N ps : List Str} {k : Nat} (fb : Env → O) (F : Fun K x qual st f fd) (Sc : FnScope N ps (defScope st)) (hm : mg c = some (.ref C))
    (hb : ∀ (cdv : Value) (A : Around) (outer : List PySem.Env) (s : Shared) (H : Hp) (E : XK) (B : Bs), Room k (A.deeper (envOfC qual (defScope st) s.heap.objs.size f cdv)) → 
      EB (cxOf (L2.CX P w) P w K mg base N qual (defScope st) f cdv A outer s H E) B (fun cls d _ H => E cls d H) (defBody st) fb) : FnOk P w K mg base (L2.CX P w) (k + 1) f fd ps (spI K mg c C (mInit c ps.length N.length fb)) := by
  refine F.okX Sc (fun vs H Q E h => ?_) (fun cdv A outer s H vs Q E hr h => ?_)
  · obtain ⟨a, dx, vs', S, H1, qs, rfl, _, _, _, _, e, r, h⟩ := h
    rw [List.length_cons, r.length]
    by_cases hl : qs.length + 1 = ps.length
    · exact hl
    · exact absurd (by unfold mInit; rw [if_neg hl]) h.notbad
  · obtain ⟨a, dx, vs', S, H1, qs, rfl, n1, n2, n3, rfl, e, r, h⟩ := h
    refine ⟨_, hb cdv A outer s _ E ⟨S, H1, some a⟩ hr, ?_⟩
    unfold mInit at h
    split at h
    · rename_i hl
      refine ⟨_, S, init_rel hm n1 n2 e r, ?_⟩
      rw [hl]
      have fin : ∀ {ρ : Env}, GoN K mg c a S H1 Q E (match (ρ[0]? : Option Slot) with | some (.oo c' fs) => if c' = c then .ok fs else .bad | _ => .bad) → ∀ σ H' S', Rel K mg ⟨S, H1, some a⟩ S' σ H' ρ → Q .non H' := fun {ρ} h σ H' S' R => by
        cases z : ρ[0]? with
        | none => rw [z] at h; exact h.elim
        | some t =>
          rw [z] at h
          cases t with
          | oo c' fs =>
            simp only at h
            split at h
            · rename_i hc
              subst hc
              obtain ⟨fp, q⟩ := init_end R rfl z
              exact h fp S' H' R.whole q
            · exact h.elim
          | _ => exact h.elim
      cases z : fb (Slot.oo c [] :: (qs.map Slot.sh ++ List.replicate (N.length - ps.length) Slot.un)) with
      | nx ρ => rw [z] at h; exact fun σ H' S' s' R => fin h σ H' S' R
      | rt p ρ =>
        rw [z] at h
        cases p with
        | non => exact fun v σ H' S' s' R rv => by cases rv; exact fin h σ H' S' R
        | _ => exact h.elim
      | exc x ρ => rw [z] at h; exact fun cls d σ H' S' s' R rx => h cls d S' H' R.whole rx
      | bk ρ => rw [z] at h; exact h.elim
      | ct ρ => rw [z] at h; exact h.elim
      | bad => rw [z] at h; exact h.elim
    · exact h.elim
end
def pMake (c : Str) (mi : List PV → R (List (Str × Slot))) (fs : Env → R (List PV)) : Env → R Slot := fun ρ => (fs ρ).bind fun ps => (mi ps).bind fun fl => .ok (.oo c fl)
section
variable {X : Cx} {B : Bs} {W : WX} {e : Expr} {es : List Expr} {pos p : Pos} {c : Str} {fs : Env → R (List PV)}
theorem run_makeS {CX : CXT} {k : Nat} {f C : Addr} {fd : FuncData} {ps : List Str} {sp : Sp} {E : L2.St → XK} {pins : List (Addr × Obj)} {σ : L2.St} {H : Hp} {s : Shared} {Q : VK} {us : List Value} {vs : List V} (M : Mk X.K C f) (F : FnOk X.prog X.w X.K X.mg X.base CX k f fd ps sp) (hr : Room (k + 1) X.A) (hb : Binds X.K fd ps [])
    (hx : PassesAt CX X σ (E σ)) (I : Inv X pins σ H s) (r : Vals vs us)
    (h : ∀ x dx, H x = none → H dx = none → dx ≠ x → sp (.ref x :: vs) (upd (upd H dx (.own x)) x (.ins C dx [])) (fun v H2 => v = .non ∧ Q (.ref x) H2) (E σ)) :
    wpAny (model X.prog X.w) X.A (call (.ref C) us) (EP X pins σ Q) X.xe s := by
  have hq := h (s.heap.objs.size + 1) s.heap.objs.size (I.hok.fresh (Nat.le_succ _)) (I.hok.fresh (Nat.le_refl _)) (Nat.ne_of_lt (Nat.lt_succ_self _))
  have I2 := Inv.made (C := C) I
  have r2 : Vals (V.ref (s.heap.objs.size + 1) :: vs) (Value.ref (s.heap.objs.size + 1) :: us) := .cons rfl r
  have hl : (Value.ref (s.heap.objs.size + 1) :: us ++ []).length = ps.length := by
    have e := r2.length
    rw [F.len _ _ _ _ hq] at e
    rw [List.append_nil]
    exact e.symm
  have b := hb _ (Value.ref (s.heap.objs.size + 1) :: us) I2.kIn hl
  rw [List.append_nil] at b
  refine wpAny_call (make_map (f := f) I.kIn M.makes M.init (beq_iff_eq.mp M.fn) (codeAny_mono (F.run _ X.stack _ _ ⟨Value.ref (s.heap.objs.size + 1) :: us, []⟩ (Value.ref (s.heap.objs.size + 1) :: us) _ _ (E σ) (hr.make C us [])
    (I2.env0.make C us []) b r2 hq) fun r s' hq' => ?_))
  cases r with
  | error e => exact hx pins _ _ e s' I2 hq'
  | ok fl =>
    cases fl with
    | ret u =>
      obtain ⟨v, H', I3, rv, ev, q3⟩ := I2.after hq'
      subst ev
      exact ⟨rv, ⟨V.ref (s.heap.objs.size + 1), H', I3, rfl, q3⟩⟩
    | next => exact False.elim hq'
    | brk => exact False.elim hq'
    | cont => exact False.elim hq'
theorem f_make {k : Nat} {mi : List PV → R (List (Str × Slot))} (Mm : Maker X.prog X.w X.K X.mg X.base k c mi) (hr : Room (k + 1) X.A) (px : Px X W) (ha : EA X B W (e :: es) fs) (hg : Gl X c := by rfl)
    (hdb : (c == ("__debug__" : Str)) = false := by decide) (he : starEach (e :: es) X.env = (false, eval e X.env) :: starEach es X.env := by rfl) (hpl : (backTo pos (starEach es X.env)).any (·.1) = false := by rfl) :
    EF X B W (.Call (.Name c p) (e :: es) [] pos) (pMake c mi fs) := by
  obtain ⟨C, f, fd, ps, T, M, F, b⟩ := Mm.ex
  refine ⟨fun pins s σ H Q I h => ?_⟩
  refine wpAny_Call_Name_kw (ld_glob I hg T.mg ?_ hdb)
  obtain ⟨ρ, S, Rl, q⟩ := h
  refine PySem.W.callWith_K (h₀ := X.base) I.ok.mod.kin M.kp (thn (ha.run pos pins s σ H (fun vs H1 => ∃ S1 ps, Same S1 H1 ∧ Reps X.K X.mg S1 vs ps ∧ GoF X.K X.mg S1 H1 Q (fun cls d H' => W cls d σ H') ((mi ps).bind fun fl => .ok (.oo c fl))) I ⟨ρ, S, Rl, GoA.atF q fun vs ps S1 H1 e r h => ⟨S1, ps, e.sh, r, h⟩⟩) fun us s1 ⟨vs, H1, I1, r, q⟩ => ⟨I1.kIn, ?_⟩) he hpl
  obtain ⟨S1, qs, e1, r1, h1⟩ := q
  refine run_makeS (E := WE W) M F hr b (px σ) I1 r fun x dx n1 n2 n3 => ⟨x, dx, vs, S1, H1, qs, rfl, n1, n2, n3, rfl, e1, r1, ?_⟩
  cases z : mi qs with
  | ok fl => rw [z] at h1; exact fun fp S' H' e2 sl => ⟨rfl, h1 _ fp S' H' e2 sl⟩
  | exc x => rw [z] at h1; exact h1
  | bad => rw [z] at h1; exact h1
end
/-! ### self.f = e -/
section
variable {K : PySem.W.Frag} {mg : Str → Option Value} {B : Bs} {S S' H H' H0 : Hp} {σ : L2.St} {ρ : Env} {fp : Nat → List Addr}
theorem FldsOk.put {n : Str} {v : V} {t : Slot} {g : List Addr} : ∀ {fv : List (Str × V)} {fs : List (Str × Slot)} {fq : List Addr}, FldsOk K mg S H0 H fv fs fq → SlotOk K mg S H0 H (some v) t g → (∀ a ∈ g, a ∉ fq) → ∃ f', FldsOk K mg S H0 H (putF n v fv) (putS n t fs) f' ∧ ∀ a ∈ f', a ∈ fq ∨ a ∈ g
  | _, _, _, .nil, q, _ => ⟨g ++ [], .cons q .nil (fun a _ => by simp), fun a ha => by simp at ha; exact .inr ha⟩
  | _, _, _, .cons (f := k) (v := w) (s := s) (fp := f1) (fq := f2) (r := r) (r' := r') q1 q2 d, q, dj => by
    unfold putF putS
    by_cases e : k = n
    · rw [if_pos e, if_pos e]
      subst e
      exact ⟨g ++ f2, .cons q q2 (fun a ha hb => dj a ha (by simp [hb])), fun a ha => by
        rcases List.mem_append.mp ha with h | h
        · exact .inr h
        · exact .inl (by simp [h])⟩
    · rw [if_neg e, if_neg e]
      obtain ⟨f', h1, h2⟩ := q2.put q (fun a ha hb => dj a ha (by simp [hb]))
      refine ⟨f1 ++ f', .cons q1 h1 (fun a ha hb => ?_), fun a ha => ?_⟩
      · rcases h2 a hb with z | z
        · exact d a ha z
        · exact dj a z (by simp [ha])
      · rcases List.mem_append.mp ha with h | h
        · exact .inl (by simp [h])
        · rcases h2 a h with z | z
          · exact .inl (by simp [z])
          · exact .inr z
theorem RelF.mutG (R : RelF K mg B S σ H ρ fp) {i : Nat} {a : Addr} {s : Slot} {o : HO} {v : Option V} {f' : List Addr} (hi : i < ρ.length) (hm : a ∈ fp i) (hv : σ[i]? = some v) (h : SlotOk K mg S B.H0 (upd H a o) v s f') (hf : ∀ b ∈ f', b ∈ fp i ∨ ∀ j, j < ρ.length → b ∉ fp j) :
    RelF K mg B S σ (upd H a o) (ρ.set i s) (upF fp i f') := by
  obtain ⟨n1, n2, _⟩ := R.foot hi (a := a) hm
  refine ⟨R.s0, same_upd R.sh n1, same_upd R.h0 n2, R.fr, by simp [R.len], fun j t ht => ?_, fun j k b hj hk q1 q2 => ?_, R.me⟩
  · by_cases hji : j = i
    · subst hji
      rw [List.getElem?_set_self hi] at ht; cases ht
      exact ⟨v, hv, by rw [upF_same]; exact h⟩
    · rw [List.getElem?_set_ne (Ne.symm hji)] at ht
      rw [upF_ne hji]
      obtain ⟨w, e, q⟩ := R.slots j t ht
      have hl : j < ρ.length := (List.getElem?_eq_some_iff.mp ht).1
      refine ⟨w, e, q.move (Same.refl _) (fun b hb => (q.foot b hb).1) fun b hb u hu => ?_⟩
      have ne : b ≠ a := fun z => hji (R.dis j i b hl hi hb (by rw [z]; exact hm))
      rw [upd_ne ne]; exact hu
  · rw [List.length_set] at hj hk
    by_cases j1 : j = i
    · by_cases k1 : k = i
      · rw [j1, k1]
      · rw [j1, upF_same] at q1; rw [upF_ne k1] at q2
        rcases hf b q1 with z | z
        · exact absurd (R.dis k i b hk hi q2 z) k1
        · exact absurd q2 (z k hk)
    · by_cases k1 : k = i
      · rw [upF_ne j1] at q1; rw [k1, upF_same] at q2
        rcases hf b q2 with z | z
        · exact absurd (R.dis j i b hj hi q1 z) j1
        · exact absurd q1 (z j hj)
      · rw [upF_ne j1] at q1; rw [upF_ne k1] at q2
        exact R.dis j k b hj hk q1 q2
/-- the field n of the object at slot i gets a fresh value -/
theorem Rel.setF (R : Rel K mg B S σ H ρ) (e : Ext S H S' H') {i : Nat} {c n : Str} {fs : List (Str × Slot)} {v : V} {t : Slot} {g : List Addr} (h : ρ[i]? = some (.oo c fs)) (q : SlotOk K mg S' H H' (some v) t g) :
    ∃ a C dx fv, σ[i]? = some (some (.ref a)) ∧ H' a = some (.ins C dx fv) ∧ mg c = some (.ref C) ∧ fv.length = fs.length ∧ Rel K mg B S' σ (upd H' a (.ins C dx (putF n v fv))) (ρ.set i (.oo c (putS n t fs))) := by
  obtain ⟨fp, R⟩ := R
  have R' := R.ext e
  obtain ⟨w, ew, sl⟩ := R'.slots i _ h
  have hi : i < ρ.length := (List.getElem?_eq_some_iff.mp h).1
  generalize hg : fp i = gi at sl
  cases sl with
  | @oo a C dx _ fv _ fq h1 h2 h3 m r d =>
    have hl : fv.length = fs.length := by
      have := congrArg List.length r.keys
      simpa using this
    refine ⟨a, C, dx, fv, ew, h3, m, hl, ?_⟩
    have ng : ∀ b ∈ g, ∀ j, j < ρ.length → b ∉ fp j := fun b hb j hj hm => by
      obtain ⟨_, _, o, z⟩ := R.foot hj hm
      rw [(q.foot b hb).2.1] at z; cases z
    obtain ⟨f', p1, p2⟩ := r.put (n := n) (q.base fun b hb => R.h0.free (q.foot b hb).2.1) (fun b hb hm => ng b hb i hi (by rw [hg]; simp [hm]))
    have na : a ∉ f' := fun ha => by
      rcases p2 a ha with z | z
      · exact d z
      · exact ng a z i hi (by rw [hg]; simp)
    refine ⟨_, R'.mutG hi (a := a) (by rw [hg]; simp) ew (f' := a :: f') (.oo h1 h2 upd_same m (p1.move (Same.refl _) (fun b hb => (p1.foot b hb).1) fun b hb u hu => ?_) na) fun b hb => ?_⟩
    · rw [upd_ne (fun z => na (by rw [← z]; exact hb))]; exact hu
    · rcases List.mem_cons.mp hb with rfl | hb
      · exact .inl (by rw [hg]; simp)
      · rcases p2 b hb with z | z
        · exact .inl (by rw [hg]; simp [z])
        · exact .inr (ng b z)
end
def sSetF (i : Nat) (c n : Str) (f : Env → R Slot) : Env → O := fun ρ => match ρ[i]? with
  | some (.oo c' fs) => (match f ρ with
    | .ok t => if c' = c ∧ fs.length < 1000 then .nx (ρ.set i (.oo c (putS n t fs))) else .bad
    | .exc x => .exc x ρ
    | .bad => .bad)
  | _ => .bad
section
variable {X : Cx} {B : Bs} {W : WX} {e : Expr} {es : List Expr} {pos pos' p : Pos} {c : Str} {C : Addr} {f : Env → R Slot}
theorem s_setf (i : Nat) {n x : Str} (T : ClsN X.K X.mg c C) (na : NoAttr X.K C n) (he : EF X B W e f) (hN : X.N[i]? = some x := by rfl) (hv : Vis X.env.scope x := by first | exact Or.inl rfl | exact Or.inr (Or.inl rfl) | exact Or.inr (Or.inr rfl)) (hd : (x == ("__debug__" : Str)) = false := by decide)
    (hcd : (x == ("__classdict__" : Str)) = false := by decide) (hs : swapsWith e (some (.Attribute (.Name x p) n pos')) pos.line X.env = pure false := by rfl) : ES X B W (.Assign [.Attribute (.Name x p) n pos'] e pos) (sSetF i c n f) :=
  PS.imp (ps_fld (pe_var hN hv hd hcd) he hs) fun D σ H ⟨ρ, S, Rl, q⟩ => by
    refine ⟨ρ, S, Rl, ?_⟩
    unfold sSetF at q
    cases z : ρ[i]? with
    | none => rw [z] at q; exact q.elim
    | some t =>
      cases t with
      | oo c' fs =>
        rw [z] at q
        cases z2 : f ρ with
        | ok t =>
          simp only [z2] at q
          split at q
          · rename_i hl
            obtain ⟨hc, hl⟩ := hl
            subst hc
            intro v g S' H' e sl
            obtain ⟨a, C', dx, fv, ea, ha, hm, hlen, R2⟩ := Rl.setF e (n := n) z sl
            rw [T.mg] at hm; cases hm
            exact ⟨_, ea, a, C, dx, fv, rfl, ha, T.cl, na, by rw [hlen]; exact hl, q σ _ S' e.s R2⟩
          · exact q.elim
        | exc x =>
          simp only [z2] at q
          exact fun cls d S' H' e r => q cls d σ H' S' e.s (Rl.ext e) r
        | bad => simp only [z2] at q; exact q
      | _ => rw [z] at q; exact q.elim
end
end Pu
set_option Elab.async false
set_option linter.all false
set_option maxRecDepth 100000
set_option maxHeartbeats 4000000
namespace Pu
open PySem PySem.Spec PyProof.Rows L2
/-! ### a tuple once: the tuple itself -/
theorem once_mul (l : Addr) (xs : Array Value) (n : Nat) (sl : Array (Option Value)) (dd : Option Addr) (u : Tok) :
    Meets (Builtin.«tuple.__mul__» ⟨[.ref l, .int 1 u], []⟩) (fun _ R s => s.heap.get? l = some { cls := .type "tuple", dict := dd, data := .seq xs n, slots := sl } ∧ R (.ok (.ret (Value.ref l))) s) :=
  .of_wp fun prog w A R s h => by
    obtain ⟨s1, s2, s3, s4, s5⟩ := s
    obtain ⟨at_, h⟩ := h
    have ii := AutoSeq1.idx_int
    wp_walk using wpAny_loadPart' at_
    repeat (first
      | (refine wpAny_ite_false (decide_eq_false (by decide)) ?_; wp_walk using wpAny_loadPart' at_)
      | (refine wpAny_ite_true (decide_eq_true (by simp)) ?_; wp_walk using wpAny_loadPart' at_))
    exact ⟨_, rfl, h⟩
def rOnce (K : PySem.W.Frag) : R2 := fun x y H Q => ∃ l xs, x = .ref l ∧ y = .int 1 ∧ SqT K H l xs ∧ Q (.ref l) H
section
variable {X : Cx}
theorem op_once : OpR X (binaryOp .Mult) (rOnce X.K) := by
  intro pins s σ H x y v u Q I rx ry ⟨l, xs, e1, e2, hT, q⟩
  subst e1 e2
  cases rx
  obtain ⟨tk, rfl⟩ := ry
  obtain ⟨its, r, ⟨⟨cl, dd, dt, sl⟩, at_, e3, n, e4⟩, hs⟩ := I.tuple hT
  simp only at e3 e4
  subst e3 e4
  refine wpAny_binaryOp_repeat_ref (T := "tuple") (U := "int") (by decide) ⟨_, at_, rfl⟩ (fun z => typeIs_int z 1 tk) noFill_tuple_mul F.fills_int_mul F.slot_int_rmul repeat_tuple F.slot_int_index.lookup
    (call_meets F.slot_int_rmul (typeIs_int s 1 tk) F.entry_int_rmul (F.args_int_rmul_2 _ _) (int_rmul_tuple 1 tk l its.toArray n dd sl)
      ⟨at_, rfl, ⟨_, at_, rfl⟩, call_meets F.slot_tuple_mul ⟨_, at_, rfl⟩ F.entry_tuple_mul (F.args_tuple_mul_2 _ _) (once_mul l its.toArray n sl dd tk) ⟨at_, ?_⟩⟩)
  exact ⟨.ref l, H, I, rfl, q⟩
end
end Pu
set_option Elab.async false
set_option linter.all false
set_option maxRecDepth 100000
set_option maxHeartbeats 4000000
namespace Pu
open PySem PySem.Spec PyProof.Rows L2

/-! ### arithmetic -/
def bOk (b : Bool) (r : R α) : R α := if b = true then r else .bad
def paddF : PV → PV → R Slot
  | .int i, .int j => .ok (.sh (.int (i + j)))
  | .str x, .str y => if x.length + y.length ≤ sizeLine then .ok (.sh (.str (x ++ y))) else .bad
  | .tup xs, .tup ys => if xs.length + ys.length ≤ sizeLine then .ok (.sh (.tup (xs ++ ys))) else .bad
  | .lst xs, .lst ys => if xs.length + ys.length ≤ sizeLine then .ok (.ow (xs ++ ys)) else .bad
  | _, _ => .bad
def padd (p q : PV) : R PV := (paddF p q).bind toPV
def psub : PV → PV → R PV
  | .int i, .int j => .ok (.int (i - j))
  | _, _ => .bad
def mulOk (i j : Int) : Prop := CMul i j ∨ CMulX i j
noncomputable instance : Decidable (mulOk i j) := Classical.propDecidable _
noncomputable def pmulF : PV → PV → R Slot
  | .int i, .int j => if mulOk i j then .ok (.sh (.int (i * j))) else .bad
  | .tup xs, .int k => if k = 1 then .ok (.sh (.tup xs)) else if xs ≠ [] ∧ 2 ≤ k ∧ k ≤ 1000 ∧ xs.length ≤ 1000 then .ok (.sh (.tup (List.replicate k.toNat xs).flatten)) else .bad
  | .lst xs, .int k => whenP (-(2 ^ 63) ≤ k ∧ k < 2 ^ 63 ∧ xs.length * k.toNat ≤ sizeLine) (.ok (.ow (List.replicate k.toNat xs).flatten)) .bad
  | _, _ => .bad
noncomputable def pmul (p q : PV) : R PV := (pmulF p q).bind toPV
def pfdiv : PV → PV → R PV
  | .int i, .int j => if j ≠ 0 ∧ j.natAbs < 1073741824 then .ok (.int (i.fdiv j)) else if 0 < j ∧ j.natAbs.log2 < 9000 then .ok (.int (i / j)) else .bad
  | _, _ => .bad
def pmod : PV → PV → R PV
  | .int i, .int j => if j ≠ 0 then .ok (.int (i.fmod j)) else .bad
  | _, _ => .bad
def ppow : PV → PV → R PV
  | .int i, .int j => if 0 ≤ j ∧ j ≤ 1000000 ∧ i.natAbs < 2 ^ 64 then .ok (.int (i ^ j.toNat)) else .bad
  | _, _ => .bad
def pneg : PV → R PV
  | .int i => .ok (.int (-i))
  | _ => .bad
section
variable {X : Cx} {B : Bs} {W : WX} {a b c : Expr} {pos : Pos} {f1 f2 f3 : Env → R PV}
theorem op_addF : BOpF X (binaryOp .Add) paddF := by
  intro pins s σ H x y v u Q I rx ry h
  obtain ⟨S, p, q, e, r1, r2, h⟩ := h
  cases r1 with
  | @int i =>
    cases r2 with
    | @int j => exact op_add pins s σ H _ _ v u Q I rx ry ⟨i, j, rfl, rfl, GoE.done (GoF.val h) e .int⟩
    | _ => exact h.elim
  | @str x =>
    cases r2 with
    | @str y =>
      simp only [paddF] at h
      split at h
      · rename_i hl
        exact op_add_str pins s σ H _ _ v u Q I rx ry ⟨x, y, rfl, rfl, hl, GoE.done (GoF.val h) e .str⟩
      · exact h.elim
    | _ => exact h.elim
  | tup h1 r1 =>
    cases r2 with
    | tup h2 r2 =>
      simp only [paddF] at h
      split at h
      · rename_i hl
        have h := GoF.val h
        refine op_catA pins s σ H _ _ v u Q I rx ry ⟨_, _, _, _, rfl, rfl, seqT e h1, seqT e h2, by rw [r1.length, r2.length]; exact hl, fun z => ?_, fun _ z => ?_, fun _ _ p hp => ?_⟩
        · subst z
          cases r1
          exact h _ S H (Ext.refl e) (.tup h2 r2)
        · subst z
          cases r2
          rw [List.append_nil] at h
          exact h _ S H (Ext.refl e) (.tup h1 r1)
        · exact h _ _ _ (Ext.new e hp) (.tup (SqT.of upd_same) ((r1.append r2).mono (same_new (e.free hp))))
      · exact h.elim
    | _ => exact h.elim
  | lst h1 r1 =>
    cases r2 with
    | lst h2 r2 =>
      simp only [paddF] at h
      split at h
      · rename_i hl
        exact op_cat pins s σ H _ _ v u Q I rx ry ⟨_, _, _, _, rfl, rfl, e _ _ h1, e _ _ h2, by rw [r1.length, r2.length]; exact hl, fun p hp => GoF.lst h e hp (r1.append r2)⟩
      · exact h.elim
    | _ => exact h.elim
  | _ => cases r2 <;> exact h.elim
theorem op_addP : BOp X (binaryOp .Add) padd := BOpF.to op_addF
theorem op_subP : BOp X (binaryOp .Sub) psub := OpR.imp op_sub fun x y H Q ⟨S, p, q, e, r1, r2, h⟩ => by
  cases r1 <;> cases r2 <;> first | exact ⟨_, _, rfl, rfl, GoE.done h e .int⟩ | exact h.elim
theorem op_mulF : BOpF X (binaryOp .Mult) pmulF := by
  intro pins s σ H x y v u Q I rx ry h
  obtain ⟨S, p, q, e, r1, r2, h⟩ := h
  cases r1 with
  | @int i =>
    cases r2 with
    | @int j =>
      simp only [pmulF] at h
      split at h
      · rename_i hm
        rcases hm with hm | hm
        · exact op_mul pins s σ H _ _ v u Q I rx ry ⟨i, j, rfl, rfl, hm, GoE.done (GoF.val h) e .int⟩
        · exact op_mulX pins s σ H _ _ v u Q I rx ry ⟨i, j, rfl, rfl, hm, GoE.done (GoF.val h) e .int⟩
      · exact h.elim
    | _ => exact h.elim
  | @tup _ _ ps h1 r1 =>
    cases r2 with
    | @int k =>
      simp only [pmulF] at h
      split at h
      · rename_i hk
        subst hk
        exact op_once pins s σ H _ _ v u Q I rx ry ⟨_, _, rfl, rfl, seqT e h1, GoE.done (GoF.val h) e (.tup h1 r1)⟩
      split at h
      · rename_i hl
        obtain ⟨l1, l2, l3, l4⟩ := hl
        refine op_repT pins s σ H _ _ v u Q I rx ry ⟨_, k, _, rfl, rfl, seqT e h1, fun z => ?_, l2, l3, by rw [r1.length]; exact l4, fun p hp => GoF.val h _ _ _ (Ext.new e hp) (.tup (SqT.of upd_same) ((r1.rep k.toNat).mono (same_new (e.free hp))))⟩
        subst z; cases r1; exact l1 rfl
      · exact h.elim
    | _ => exact h.elim
  | @lst _ _ ps h1 r1 =>
    cases r2 with
    | @int k =>
      simp only [pmulF, whenP] at h
      split at h
      · rename_i hl
        exact op_rep pins s σ H _ _ v u Q I rx ry ⟨_, k, _, rfl, rfl, e _ _ h1, hl.1, hl.2.1, by rw [r1.length]; exact hl.2.2, fun p hp => GoF.lst h e hp (r1.rep k.toNat)⟩
      · exact h.elim
    | _ => exact h.elim
  | _ => cases r2 <;> exact h.elim
theorem op_mulP : BOp X (binaryOp .Mult) pmul := BOpF.to op_mulF
theorem op_fdivP : BOp X (binaryOp .FloorDiv) pfdiv := by
  intro pins s σ H x y v u Q I rx ry h
  obtain ⟨S, p, q, e, r1, r2, h⟩ := h
  cases r1 with
  | @int i =>
    cases r2 with
    | @int j =>
      simp only [pfdiv] at h
      split at h
      · rename_i hm
        exact op_fdivN pins s σ H _ _ v u Q I rx ry ⟨i, j, rfl, rfl, hm, GoE.done h e .int⟩
      · split at h
        · rename_i hm
          exact op_fdivW pins s σ H _ _ v u Q I rx ry ⟨i, j, rfl, rfl, hm, GoE.done h e .int⟩
        · exact h.elim
    | _ => exact h.elim
  | _ => cases r2 <;> exact h.elim
theorem op_modP : BOp X (binaryOp .Mod) pmod := by
  intro pins s σ H x y v u Q I rx ry h
  obtain ⟨S, p, q, e, r1, r2, h⟩ := h
  cases r1 with
  | @int i =>
    cases r2 with
    | @int j =>
      simp only [pmod] at h
      split at h
      · rename_i hm
        exact op_modN pins s σ H _ _ v u Q I rx ry ⟨i, j, rfl, rfl, hm, GoE.done h e .int⟩
      · exact h.elim
    | _ => exact h.elim
  | _ => cases r2 <;> exact h.elim
theorem op_powP : BOp X (binaryOp .Pow) ppow := by
  intro pins s σ H x y v u Q I rx ry h
  obtain ⟨S, p, q, e, r1, r2, h⟩ := h
  cases r1 with
  | @int i =>
    cases r2 with
    | @int j =>
      simp only [ppow] at h
      split at h
      · rename_i hm
        exact op_pow pins s σ H _ _ v u Q I rx ry ⟨i, j, rfl, rfl, hm, GoE.done h e .int⟩
      · exact h.elim
    | _ => exact h.elim
  | _ => cases r2 <;> exact h.elim
def paddI : PV → PV → R PV
  | .int i, .int j => .ok (.int (i + j))
  | .str x, .str y => if x.length + y.length ≤ sizeLine then .ok (.str (x ++ y)) else .bad
  | _, _ => .bad
theorem iop_addP : BOp X (inplaceOp .Add) paddI := by
  intro pins s σ H x y v u Q I rx ry h
  obtain ⟨S, p, q, e, r1, r2, h⟩ := h
  cases r1 with
  | @int i =>
    cases r2 with
    | @int j => exact iop_add pins s σ H _ _ v u Q I rx ry ⟨i, j, rfl, rfl, GoE.done h e .int⟩
    | _ => exact h.elim
  | @str x =>
    cases r2 with
    | @str y =>
      simp only [paddI] at h
      split at h
      · rename_i hl
        exact iop_add_str pins s σ H _ _ v u Q I rx ry ⟨x, y, rfl, rfl, hl, GoE.done h e .str⟩
      · exact h.elim
    | _ => exact h.elim
  | _ => cases r2 <;> exact h.elim
theorem iop_subP : BOp X (inplaceOp .Sub) psub := OpR.imp iop_sub fun x y H Q ⟨S, p, q, e, r1, r2, h⟩ => by
  cases r1 <;> cases r2 <;> first | exact ⟨_, _, rfl, rfl, GoE.done h e .int⟩ | exact h.elim
def pUn (g : PV → R PV) (f : Env → R PV) : Env → R PV := fun ρ => (f ρ).bind fun p => nox (g p)
theorem e_neg (ha : EE X B W a f1) : EE X B W (.UnaryOp .USub a pos) (pUn pneg f1) :=
  PE.imp (pe_un un_neg ha) fun σ H Q ⟨ρ, S, Rl, q⟩ => ⟨ρ, S, Rl, GoE.at q fun v p S1 H1 e r h => by
    cases r with
    | @int i => exact ⟨i, rfl, GoE.done (GoE.nox (E' := fun _ _ _ => True) h) e.sh .int⟩
    | _ => exact h.elim⟩

/-! ### comparisons -/
mutual
def PV.dat : PV → PyData
  | .non => .none
  | .bl b => .bool b
  | .int i => .int i
  | .str x => .str x
  | .lst xs => .list (dats xs)
  | .fls xs => .list (dats xs)
  | .tup xs => .tuple (dats xs)
  | .obj _ _ => .dict []
  | .dic _ => .dict []
def dats : List PV → List PyData
  | [] => []
  | p :: ps => p.dat :: dats ps
end
mutual
theorem Rep.dp {K : PySem.W.Frag} {mg : Str → Option Value} {S H : Hp} (e : Same S H) : ∀ {v : V} {p : PV}, Rep K mg S v p → p.dat.canLay0 = true → Dp K H v p.dat
  | _, _, .non, _ => .non
  | _, _, .bl, _ => .bl _
  | _, _, .int, _ => .int _
  | _, _, .str, _ => .str _
  | _, _, .lst h r, c => .lst (SqL.of (e _ _ h)) (Reps.dp e r (by simpa [PV.dat, PyData.canLay0] using c))
  | _, _, .fls h r, c => .lst (e.seq h) (Reps.dp e r (by simpa [PV.dat, PyData.canLay0] using c))
  | _, _, .tup h r, c => .tup (seqT e h) (Reps.dp e r (by simpa [PV.dat, PyData.canLay0] using c))
  | _, _, .obj _ _ _ _, c => by simp [PV.dat, PyData.canLay0] at c
  | _, _, .dic _ _ _, c => by simp [PV.dat, PyData.canLay0] at c
theorem Reps.dp {K : PySem.W.Frag} {mg : Str → Option Value} {S H : Hp} (e : Same S H) : ∀ {vs : List V} {ps : List PV}, Reps K mg S vs ps → PyData.canLayAll0 (dats ps) = true → DpAll K H vs (dats ps)
  | _, _, .nil, _ => .nil
  | _, _, .cons h r, c => by
    simp only [dats, PyData.canLayAll0, Bool.and_eq_true] at c
    exact .cons (Rep.dp e h c.1) (Reps.dp e r c.2)
end
/-- the scalars that == tells apart at once -/
def scP : PV → PV → Bool
  | .non, .non => true | .non, .int _ => true | .int _, .non => true | .non, .bl _ => true | .bl _, .non => true | .non, .str _ => true | .str _, .non => true
  | .int _, .int _ => true | .bl _, .bl _ => true | .str _, .str _ => true
  | .int _, .str _ => true | .str _, .int _ => true | .bl _, .str _ => true | .str _, .bl _ => true
  | _, _ => false
def scEq : PV → PV → Bool
  | .non, .non => true
  | .int i, .int j => decide (i = j)
  | .bl i, .bl j => decide (i = j)
  | .str i, .str j => decide (i = j)
  | _, _ => false
def peq (p q : PV) : R PV := if scP p q = true then .ok (.bl (scEq p q)) else if SeqAt.shaped p.dat = true ∧ SeqAt.shaped q.dat = true then .ok (.bl (PyData.eqv p.dat q.dat)) else .bad
def pne (p q : PV) : R PV := if scP p q = true then .ok (.bl (!scEq p q)) else if SeqAt.shaped p.dat = true ∧ SeqAt.shaped q.dat = true then .ok (.bl (!PyData.eqv p.dat q.dat)) else .bad
theorem sc_of {K : PySem.W.Frag} {mg : Str → Option Value} {S : Hp} {x y : V} {p q : PV} (r1 : Rep K mg S x p) (r2 : Rep K mg S y q) (h : scP p q = true) : scal x y = true ∧ decide (x = y) = scEq p q := by
  cases r1 <;> cases r2 <;> first | exact ⟨rfl, by simp [scEq]⟩ | exact absurd h Bool.false_ne_true
theorem op_eqP (hu : X.A.units + 64 < cLine) : BOp X (compareOp .Eq) peq := by
  intro pins s σ H x y v u Q I rx ry h
  obtain ⟨S, p, q, e, r1, r2, h⟩ := h
  unfold peq at h
  split at h
  · rename_i hs
    obtain ⟨h1, h2⟩ := sc_of r1 r2 hs
    exact op_eq pins s σ H _ _ v u Q I rx ry ⟨h1, by rw [h2]; exact GoE.done h e .bl⟩
  · split at h
    · rename_i hs
      exact op_eqD hu pins s σ H _ _ v u Q I rx ry ⟨_, _, r1.dp e (SeqAt.canLay_of_shaped hs.1), r2.dp e (SeqAt.canLay_of_shaped hs.2), hs.1, hs.2, GoE.done h e .bl⟩
    · exact h.elim
theorem op_neP (hu : X.A.units + 64 < cLine) : BOp X (compareOp .NotEq) pne := by
  intro pins s σ H x y v u Q I rx ry h
  obtain ⟨S, p, q, e, r1, r2, h⟩ := h
  unfold pne at h
  split at h
  · rename_i hs
    obtain ⟨h1, h2⟩ := sc_of r1 r2 hs
    exact op_ne pins s σ H _ _ v u Q I rx ry ⟨h1, by rw [h2]; exact GoE.done h e .bl⟩
  · split at h
    · rename_i hs
      exact op_neD hu pins s σ H _ _ v u Q I rx ry ⟨_, _, r1.dp e (SeqAt.canLay_of_shaped hs.1), r2.dp e (SeqAt.canLay_of_shaped hs.2), hs.1, hs.2, GoE.done h e .bl⟩
    · exact h.elim
def pcmp (g : Int → Int → Bool) : PV → PV → R PV
  | .int i, .int j => .ok (.bl (g i j))
  | _, _ => .bad
abbrev plt := pcmp fun i j => decide (i < j)
abbrev ple := pcmp fun i j => decide (i ≤ j)
abbrev pgt := pcmp fun i j => decide (j < i)
abbrev pge := pcmp fun i j => decide (j ≤ i)
theorem op_cmpP {op : CmpOp} {g : Int → Int → Bool} (ho : OpR X (compareOp op) (rI0 fun i j => .bl (g i j))) : BOp X (compareOp op) (pcmp g) := OpR.imp ho fun x y H Q ⟨S, p, q, e, r1, r2, h⟩ => by
  cases r1 <;> cases r2 <;> first | exact ⟨_, _, rfl, rfl, GoE.done h e .bl⟩ | exact h.elim
theorem op_ltP : BOp X (compareOp .Lt) plt := op_cmpP op_lt
theorem op_leP : BOp X (compareOp .LtE) ple := op_cmpP op_le
theorem op_gtP : BOp X (compareOp .Gt) pgt := op_cmpP op_gt
theorem op_geP : BOp X (compareOp .GtE) pge := op_cmpP op_ge
/-- a < b < c -/
def pChain (g g' : PV → PV → R PV) (f1 f2 f3 : Env → R PV) : Env → R PV := fun ρ => (f1 ρ).bind fun p => (f2 ρ).bind fun q => (nox (g p q)).bind fun r => match r with
  | .bl true => (f3 ρ).bind fun t => nox (g' q t)
  | .bl false => .ok (.bl false)
  | _ => .bad
theorem chain_go {r r' : R2} {K : PySem.W.Frag} {mg : Str → Option Value} {g g' : PV → PV → R PV} {σ : L2.St} {H : Hp} {Q : VK} {ρ : Env} {S : Hp} (hr : ∀ {x y H Q}, rP K mg g x y H Q → r x y H Q) (hr' : ∀ {x y H Q}, rP K mg g' x y H Q → r' x y H Q) (Rl : Rel K mg B S σ H ρ)
    (h : GoE K mg S H Q (fun cls d H' => W cls d σ H') (pChain g g' f1 f2 f3 ρ)) : tChain r r' (eT K mg B W f1) (eT K mg B W f2) (eT K mg B W f3) σ H Q := by
  refine ⟨ρ, S, Rl, GoE.at h fun x p S1 H1 e1 r1 h1 => ⟨ρ, S1, Rl.ext e1, GoE.at h1 fun y q S2 H2 e2 r2 h2 => hr ⟨S2, p, q, e2.sh, r1.mono e2.s, r2, ?_⟩⟩⟩
  cases z : g p q with
  | ok t =>
    rw [z] at h2
    intro v S3 H3 e3 r3
    cases r3 with
    | @bl k =>
      refine ⟨k, rfl, ?_⟩
      cases k with
      | false =>
        rw [if_neg Bool.false_ne_true]
        exact GoE.done (GoE.later e3 (show GoE K mg S2 H2 Q _ (.ok (.bl false)) from h2)) e3.sh .bl
      | true =>
        rw [if_pos rfl]
        have h2 : GoE K mg S3 H3 Q (fun cls d H' => W cls d σ H') ((f3 ρ).bind fun t => nox (g' q t)) := GoE.later e3 h2
        exact ⟨ρ, S3, ((Rl.ext e1).ext e2).ext e3, GoE.at h2 fun w t S4 H4 e4 r4 h4 => hr' ⟨S4, q, t, e4.sh, (r2.mono e3.s).mono e4.s, r4, GoE.nox h4⟩⟩
    | _ => exact h2.elim
  | exc x => rw [z] at h2; exact h2.elim
  | bad => rw [z] at h2; exact h2.elim
theorem e_chain {op op' : CmpOp} {g g' : PV → PV → R PV} (ho : BOp X (compareOp op) g) (ho' : BOp X (compareOp op') g') (ha : EE X B W a f1) (hb : EE X B W b f2) (hc : EE X B W c f3)
    (hm : lastMarks [op, op'] [b, c] = false := by with_unfolding_all rfl) : EE X B W (.Compare a [op, op'] [b, c] pos) (pChain g g' f1 f2 f3) :=
  PE.imp (pe_chain ho ho' ha hb hc hm) fun σ H Q ⟨ρ, S, Rl, q⟩ => chain_go (fun h => h) (fun h => h) Rl q
theorem t_chain {op op' : CmpOp} {g g' : PV → PV → R PV} (ho : BOp X (compareOp op) g) (ho' : BOp X (compareOp op') g') (ha : EE X B W a f1) (hb : EE X B W b f2) (hc : EE X B W c f3)
    (hm : lastMarks [op, op'] [b, c] = false := by with_unfolding_all rfl) : ET X B W (.Compare a [op, op'] [b, c] pos) (pB (pChain g g' f1 f2 f3)) :=
  PT.imp (pt_chain ho ho' ha hb hc hm) fun σ H Q ⟨ρ, S, Rl, q⟩ => chain_go (fun h => h) (fun h => h) Rl (GoT.ofB q)

/-! ### is, in -/
def PV.isNon : PV → Bool
  | .non => true
  | _ => false
def PV.isBl (b : Bool) : PV → Bool
  | .bl a => decide (a = b)
  | _ => false
def pIdK (neg : Bool) : PV → PV → R PV
  | p, .non => .ok (.bl (xor neg p.isNon))
  | p, .bl b => .ok (.bl (xor neg (p.isBl b)))
  | _, _ => .bad
theorem is_bool_gen {M : Model} {A : Around} {E : Value → Shared → Prop} {s : Shared} {v : Value} {b : Bool} {Q : Value → Shared → Prop} (hn : ∀ id, v ≠ .builtin id) (h : Q (.bool (v == .bool b)) s) : wpAny M A (compareOp .Is v (.bool b)) Q E s := by
  cases v <;> first | exact absurd rfl (hn _) | exact wpAny_pure h
theorem isnot_bool_gen {M : Model} {A : Around} {E : Value → Shared → Prop} {s : Shared} {v : Value} {b : Bool} {Q : Value → Shared → Prop} (hn : ∀ id, v ≠ .builtin id) (h : Q (.bool (!(v == .bool b))) s) : wpAny M A (compareOp .IsNot v (.bool b)) Q E s := by
  cases v <;> first | exact absurd rfl (hn _) | exact wpAny_pure h
theorem relv_nb {x : V} {v : Value} (r : RelV x v) : ∀ id, v ≠ .builtin id := fun id e => by
  subst e
  cases x with
  | bl a => cases r
  | non => cases r
  | int i => obtain ⟨t, h⟩ := r; cases h
  | str i => obtain ⟨t, h⟩ := r; cases h
  | byt i => obtain ⟨t, h⟩ := r; cases h
  | flt i => obtain ⟨t, h⟩ := r; cases h
  | ref i => cases r
  | ty i => cases r
theorem beq_bool {x : V} {v : Value} {b : Bool} (r : RelV x v) : (v == Value.bool b) = (match x with | .bl a => decide (a = b) | _ => false) := by
  cases x with
  | bl a => cases r; cases a <;> cases b <;> rfl
  | non => cases r; rfl
  | int i => obtain ⟨t, rfl⟩ := r; rfl
  | str i => obtain ⟨t, rfl⟩ := r; rfl
  | byt i => obtain ⟨t, rfl⟩ := r; rfl
  | flt i => obtain ⟨t, rfl⟩ := r; rfl
  | ref i => cases r; rfl
  | ty i => cases r; rfl
theorem op_isP : BOp X (compareOp .Is) (pIdK false) := by
  intro pins s σ H x y v u Q I rx ry h
  obtain ⟨S, p, q, e, r1, r2, h⟩ := h
  cases r2 with
  | non =>
    cases ry
    refine is_none_gen ⟨.bl _, H, I, rfl, ?_⟩
    have : (v == Value.none) = p.isNon := by
      rw [rx.none_iff]; cases r1 <;> rfl
    rw [this]
    have h' := GoE.done h e .bl
    simpa using h'
  | @bl b =>
    cases ry
    refine is_bool_gen (relv_nb rx) ⟨.bl _, H, I, rfl, ?_⟩
    have : (v == Value.bool b) = p.isBl b := by
      rw [beq_bool rx]; cases r1 <;> rfl
    rw [this]
    have h' := GoE.done h e .bl
    simpa using h'
  | _ => exact h.elim
theorem op_isnotP : BOp X (compareOp .IsNot) (pIdK true) := by
  intro pins s σ H x y v u Q I rx ry h
  obtain ⟨S, p, q, e, r1, r2, h⟩ := h
  cases r2 with
  | non =>
    cases ry
    refine isnot_none_gen ⟨.bl _, H, I, rfl, ?_⟩
    have : (v == Value.none) = p.isNon := by
      rw [rx.none_iff]; cases r1 <;> rfl
    rw [this]
    have h' := GoE.done h e .bl
    simpa using h'
  | @bl b =>
    cases ry
    refine isnot_bool_gen (relv_nb rx) ⟨.bl _, H, I, rfl, ?_⟩
    have : (v == Value.bool b) = p.isBl b := by
      rw [beq_bool rx]; cases r1 <;> rfl
    rw [this]
    have h' := GoE.done h e .bl
    simpa using h'
  | _ => exact h.elim
def PV.flat : PV → Bool
  | .non => true | .bl _ => true | .int _ => true | .str _ => true
  | _ => false
/-- z == x, as data -/
def eqD (z x : PV) : Bool := PyData.eqv z.dat x.dat
def inSeq (neg : Bool) (x : PV) (ys : List PV) : R PV := if (x.flat = true ∧ ys.all PV.flat = true) ∨ (SeqAt.shaped x.dat = true ∧ PyData.canLayAll0 (dats ys) = true) then .ok (.bl (xor neg (ys.any fun y => eqD y x))) else .bad
def pin (neg : Bool) : PV → PV → R PV
  | x, .tup ys => inSeq neg x ys
  | x, .lst ys => inSeq neg x ys
  | x, .fls ys => inSeq neg x ys
  | .str x, .str y => .ok (.bl (xor neg (!(Builtin.Str.occurrences y x 0 y.length 1).isEmpty)))
  | _, _ => .bad
theorem flat_of {K : PySem.W.Frag} {mg : Str → Option Value} {S : Hp} {v : V} {p : PV} (r : Rep K mg S v p) (h : p.flat = true) : flatV v = true := by
  cases r <;> first | rfl | exact absurd h Bool.false_ne_true
theorem flats_of {K : PySem.W.Frag} {mg : Str → Option Value} {S : Hp} : ∀ {vs : List V} {ps : List PV}, Reps K mg S vs ps → ps.all PV.flat = true → vs.all flatV = true
  | _, _, .nil, _ => rfl
  | _, _, .cons r t, h => by
    rw [List.all_cons, Bool.and_eq_true] at h ⊢
    exact ⟨flat_of r h.1, flats_of t h.2⟩
theorem eqV_of {K : PySem.W.Frag} {mg : Str → Option Value} {S : Hp} {x y : V} {p q : PV} (r1 : Rep K mg S x p) (r2 : Rep K mg S y q) (h1 : p.flat = true) (h2 : q.flat = true) : eqV x y = eqD p q := by
  cases r1 <;> first | exact absurd h1 Bool.false_ne_true | (cases r2 <;> first | exact absurd h2 Bool.false_ne_true | simp [eqV, eqD, PV.dat, PyData.eqv])
theorem inV_of {K : PySem.W.Frag} {mg : Str → Option Value} {S : Hp} {x : V} {p : PV} (r : Rep K mg S x p) (h : p.flat = true) : ∀ {vs : List V} {ps : List PV}, Reps K mg S vs ps → ps.all PV.flat = true → (vs.any fun y => eqV y x) = ps.any fun q => eqD q p
  | _, _, .nil, _ => rfl
  | _, _, .cons r1 t, hh => by
    rw [List.all_cons, Bool.and_eq_true] at hh
    rw [List.any_cons, List.any_cons, eqV_of r1 r hh.1 h, inV_of r h t hh.2]
theorem dats_any (d : PyData) : ∀ ps : List PV, ((dats ps).any fun z => PyData.eqv z d) = ps.any fun q => PyData.eqv q.dat d
  | [] => rfl
  | p :: ps => by simp only [dats, List.any_cons, dats_any d ps]
theorem in_deep {pins : List (Addr × Obj)} {s : Shared} {σ : L2.St} {H : Hp} {x : V} {u : Value} {a : Addr} {vs : List V} {ys : List PV} {p : PV} {S : Hp} (hu : X.A.units + 65 < cLine) (I : Inv X pins σ H s) (rx : RelV x u) (e : Same S H) (r : Rep X.K X.mg S x p) (rs : Reps X.K X.mg S vs ys) (hx : SeqAt.shaped p.dat = true) (hs : PyData.canLayAll0 (dats ys) = true)
    {its : List Value} (rv : Vals vs its) : (∀ y, y ∈ its.toArray → SeqAt.EqAt X.A.in1 s y u (PyData.eqv (SeqAt.readOf s.heap y) p.dat)) ∧ (its.toArray.any fun y => PyData.eqv (SeqAt.readOf s.heap y) p.dat) = ys.any fun y => eqD y p := by
  obtain ⟨bs, r1⟩ := Dp.reads I p.dat x u (r.dp e (SeqAt.canLay_of_shaped hx)) rx
  obtain ⟨as, r2⟩ := Dp.readsAll I (dats ys) vs its (rs.dp e hs) rv
  refine ⟨SeqAt.items_eqAt (vs := its.toArray) r2 r1 hs (SeqAt.canLay_of_shaped hx) (room_in_shaped hx hu), ?_⟩
  have hmap := SeqAt.readsAll_map (dats ys) its as hs r2
  rw [List.any_toArray, show (fun y => eqD y p) = fun q => PyData.eqv (PV.dat q) p.dat from rfl, ← dats_any, ← hmap, List.any_map]
  rfl
theorem in_go {neg : Bool} {op : CmpOp} (hop : op = (if neg then .NotIn else .In)) (hu : X.A.units + 65 < cLine) {pins : List (Addr × Obj)} {s : Shared} {σ : L2.St} {H : Hp} {x y : V} {v u : Value} {Q : VK} {S : Hp} {p : PV} {ys : List PV} {vs : List V} {a : Addr} (I : Inv X pins σ H s) (rx : RelV x v) (ry : RelV y u) (e : Same S H) (r1 : Rep X.K X.mg S x p) (hy : y = .ref a)
    (hq : SqL X.K H a vs ∨ SqT X.K H a vs) (rs : Reps X.K X.mg S vs ys) (h : GoE X.K X.mg S H Q (fun _ _ _ => False) (inSeq neg p ys)) : wpAny (model X.prog X.w) X.A (compareOp op v u) (EP X pins σ Q) X.xe s := by
  unfold inSeq at h
  split at h
  · rename_i hc
    have h := GoE.done h e .bl
    rcases hc with ⟨f1, f2⟩ | ⟨c1, c2⟩
    · have hr : rIn X.K neg x y H Q := ⟨a, vs, hy, hq, flat_of r1 f1, flats_of rs f2, by
        unfold inV
        rw [inV_of r1 f1 rs f2]
        cases neg with
        | true => simpa using h
        | false => simpa using h⟩
      cases neg with
      | true => subst hop; exact op_notIn_seq pins s σ H x y v u Q I rx ry hr
      | false => subst hop; exact op_in_seq pins s σ H x y v u Q I rx ry hr
    · subst hy
      cases ry
      rcases hq with hq | hq
      · obtain ⟨its, rv, pl, hz⟩ := I.list hq
        obtain ⟨g1, g2⟩ := in_deep hu I rx e r1 rs c1 c2 rv (a := a)
        cases neg with
        | true => subst hop; exact SeqAt.notIn_listAt _ pl.isList g1 ⟨.bl _, H, I, rfl, by rw [g2]; simpa using h⟩
        | false => subst hop; exact SeqAt.in_listAt _ pl.isList g1 ⟨.bl _, H, I, rfl, by rw [g2]; simpa using h⟩
      · obtain ⟨its, rv, pl, hz⟩ := I.tuple hq
        obtain ⟨g1, g2⟩ := in_deep hu I rx e r1 rs c1 c2 rv (a := a)
        cases neg with
        | true => subst hop; exact SeqAt.notIn_tupleAt _ pl g1 ⟨.bl _, H, I, rfl, by rw [g2]; simpa using h⟩
        | false => subst hop; exact SeqAt.in_tupleAt _ pl g1 ⟨.bl _, H, I, rfl, by rw [g2]; simpa using h⟩
  · exact h.elim
theorem op_inP (hu : X.A.units + 65 < cLine) : BOp X (compareOp .In) (pin false) := by
  intro pins s σ H x y v u Q I rx ry h
  obtain ⟨S, p, q, e, r1, r2, h⟩ := h
  cases r2 with
  | tup h2 rs => exact in_go (neg := false) rfl hu I rx ry e r1 rfl (.inr (seqT e h2)) rs (by cases p <;> exact h)
  | lst h2 rs => exact in_go (neg := false) rfl hu I rx ry e r1 rfl (.inl (SqL.of (e _ _ h2))) rs (by cases p <;> exact h)
  | fls h2 rs => exact in_go (neg := false) rfl hu I rx ry e r1 rfl (.inl (e.seq h2)) rs (by cases p <;> exact h)
  | str =>
    cases r1 with
    | str => exact op_in_str pins s σ H _ _ v u Q I rx ry ⟨_, _, rfl, rfl, by simpa using GoE.done h e .bl⟩
    | _ => exact h.elim
  | _ => cases r1 <;> exact h.elim
theorem op_notInP (hu : X.A.units + 65 < cLine) : BOp X (compareOp .NotIn) (pin true) := by
  intro pins s σ H x y v u Q I rx ry h
  obtain ⟨S, p, q, e, r1, r2, h⟩ := h
  cases r2 with
  | tup h2 rs => exact in_go (neg := true) rfl hu I rx ry e r1 rfl (.inr (seqT e h2)) rs (by cases p <;> exact h)
  | lst h2 rs => exact in_go (neg := true) rfl hu I rx ry e r1 rfl (.inl (SqL.of (e _ _ h2))) rs (by cases p <;> exact h)
  | fls h2 rs => exact in_go (neg := true) rfl hu I rx ry e r1 rfl (.inl (e.seq h2)) rs (by cases p <;> exact h)
  | str =>
    cases r1 with
    | str => exact op_notIn_str pins s σ H _ _ v u Q I rx ry ⟨_, _, rfl, rfl, by simpa using GoE.done h e .bl⟩
    | _ => exact h.elim
  | _ => cases r1 <;> exact h.elim
end
end Pu
set_option Elab.async false
set_option linter.all false
set_option maxRecDepth 100000
set_option maxHeartbeats 4000000
namespace Pu
open PySem PySem.Spec PyProof.Rows L2

/-! ### built-ins -/
def plen : List PV → R PV
  | [.lst xs] => .ok (.int xs.length)
  | [.fls xs] => .ok (.int xs.length)
  | [.tup xs] => .ok (.int xs.length)
  | [.str z] => if z.length ≤ sizeLine then .ok (.int z.length) else .bad
  | _ => .bad
def pint : List PV → R PV
  | [.int i] => .ok (.int i)
  | [.bl b] => .ok (.int (if b then 1 else 0))
  | _ => .bad
def plistF : List PV → R Slot
  | [.lst xs] => .ok (.ow xs)
  | [.fls xs] => .ok (.ow xs)
  | [.tup xs] => .ok (.ow xs)
  | _ => .bad
def ptuple : List PV → R PV
  | [.lst xs] => .ok (.tup xs)
  | [.fls xs] => .ok (.tup xs)
  | [.tup xs] => .ok (.tup xs)
  | _ => .bad
def bools : List PV → Option (List Bool)
  | [] => some []
  | .bl b :: r => (bools r).map (b :: ·)
  | _ => none
def pall : List PV → R PV
  | [.lst xs] => match bools xs with | some bs => .ok (.bl (bs.all id)) | none => .bad
  | _ => .bad
def pany : List PV → R PV
  | [.lst xs] => match bools xs with | some bs => .ok (.bl (bs.any id)) | none => .bad
  | _ => .bad
def intsP : List PV → Option (List Int)
  | [] => some []
  | .int i :: r => (intsP r).map (i :: ·)
  | _ => none
def psum : List PV → R PV
  | [.lst xs] => match intsP xs with | some ns => .ok (.int ns.sum) | none => .bad
  | _ => .bad
def maxOf (n : Int) (ns : List Int) : Int := ns.foldl max n
def minOf (n : Int) (ns : List Int) : Int := ns.foldl min n
def pmaxI (xs : List PV) : R PV := match intsP xs with | some (n :: ns) => .ok (.int (maxOf n ns)) | _ => .bad
def pminI (xs : List PV) : R PV := match intsP xs with | some (n :: ns) => .ok (.int (minOf n ns)) | _ => .bad
def pmax : List PV → R PV
  | [.lst xs] => pmaxI xs
  | [.tup xs] => pmaxI xs
  | [.int i, .int j] => .ok (.int (if j > i then j else i))
  | _ => .bad
def pmin : List PV → R PV
  | [.lst xs] => pminI xs
  | [.tup xs] => pminI xs
  | [.int i, .int j] => .ok (.int (if j < i then j else i))
  | _ => .bad
def pabs : List PV → R PV
  | [.int i] => .ok (.int (if i < 0 then -i else i))
  | _ => .bad
section
variable {K : PySem.W.Frag} {mg : Str → Option Value} {S H : Hp}
theorem bools_vs : ∀ {vs : List V} {ps : List PV} {bs : List Bool}, Reps K mg S vs ps → bools ps = some bs → vs = bs.map V.bl
  | _, _, _, .nil, h => by cases h; rfl
  | _, _, bs, .cons (p := p) (ps := ps) r t, h => by
    cases r with
    | @bl b =>
      have h : (bools ps).map (b :: ·) = some bs := h
      cases z : bools ps with
      | none => rw [z] at h; cases h
      | some cs => rw [z] at h; cases h; rw [bools_vs t z]; rfl
    | _ => cases h
theorem intsP_vs : ∀ {vs : List V} {ps : List PV} {ns : List Int}, Reps K mg S vs ps → intsP ps = some ns → vs = ns.map V.int
  | _, _, _, .nil, h => by cases h; rfl
  | _, _, ns, .cons (p := p) (ps := ps) r t, h => by
    cases r with
    | @int b =>
      have h : (intsP ps).map (b :: ·) = some ns := h
      cases z : intsP ps with
      | none => rw [z] at h; cases h
      | some cs => rw [z] at h; cases h; rw [intsP_vs t z]; rfl
    | _ => cases h
theorem dpAll_ints : ∀ ns : List Int, DpAll K H (ns.map V.int) (ns.map PyData.int)
  | [] => .nil
  | n :: ns => .cons (.int n) (dpAll_ints ns)
theorem foldl_max {m : Int} : ∀ {n : Int} {ns : List Int}, m ∈ n :: ns → (∀ y, y ∈ n :: ns → y ≤ m) → ns.foldl max n = m
  | n, [], h1, h2 => by simp at h1; simp [h1]
  | n, k :: ns, h1, h2 => by
    rw [List.foldl_cons]
    refine foldl_max ?_ ?_
    · have hn := h2 n (by simp)
      have hk := h2 k (by simp)
      rcases List.mem_cons.mp h1 with rfl | h
      · exact List.mem_cons.mpr (.inl (by omega))
      · rcases List.mem_cons.mp h with rfl | h
        · exact List.mem_cons.mpr (.inl (by omega))
        · exact List.mem_cons.mpr (.inr h)
    · intro y hy
      rcases List.mem_cons.mp hy with rfl | hy
      · have hn := h2 n (by simp)
        have hk := h2 k (by simp)
        omega
      · exact h2 y (by simp [hy])
theorem foldl_min {m : Int} : ∀ {n : Int} {ns : List Int}, m ∈ n :: ns → (∀ y, y ∈ n :: ns → m ≤ y) → ns.foldl min n = m
  | n, [], h1, h2 => by simp at h1; simp [h1]
  | n, k :: ns, h1, h2 => by
    rw [List.foldl_cons]
    refine foldl_min ?_ ?_
    · have hn := h2 n (by simp)
      have hk := h2 k (by simp)
      rcases List.mem_cons.mp h1 with rfl | h
      · exact List.mem_cons.mpr (.inl (by omega))
      · rcases List.mem_cons.mp h with rfl | h
        · exact List.mem_cons.mpr (.inl (by omega))
        · exact List.mem_cons.mpr (.inr h)
    · intro y hy
      rcases List.mem_cons.mp hy with rfl | hy
      · have hn := h2 n (by simp)
        have hk := h2 k (by simp)
        omega
      · exact h2 y (by simp [hy])
end
section
variable {X : Cx}
theorem cb_len : CB X (.builtin "len") plen := CallR.imp call_len fun vs H Q ⟨S, ps, e, r, h⟩ => by
  unfold plen at h
  split at h
  · cases r with
    | cons r t => cases t; cases r with
      | lst h1 r => exact ⟨_, _, rfl, .inl ⟨_, SqL.of (e _ _ h1), rfl⟩, by rw [r.length]; exact GoE.done h e .int⟩
  · cases r with
    | cons r t => cases t; cases r with
      | fls h1 r => exact ⟨_, _, rfl, .inl ⟨_, e.seq h1, rfl⟩, by rw [r.length]; exact GoE.done h e .int⟩
  · cases r with
    | cons r t => cases t; cases r with
      | tup h1 r => exact ⟨_, _, rfl, .inr ⟨_, seqT e h1, rfl⟩, by rw [r.length]; exact GoE.done h e .int⟩
  · split at h
    · rename_i hl
      cases r with
      | cons r t => cases t; cases r; exact ⟨_, _, rfl, ⟨hl, rfl⟩, GoE.done h e .int⟩
    · exact h.elim
  · exact h.elim
theorem cb_int : CB X (.type "int") pint := CallR.imp call_int1 fun vs H Q ⟨S, ps, e, r, h⟩ => by
  unfold pint at h
  split at h
  · cases r with
    | cons r t => cases t; cases r; exact .inl ⟨_, rfl, GoE.done h e .int⟩
  · cases r with
    | cons r t => cases t; cases r; exact .inr ⟨_, rfl, GoE.done h e .int⟩
  · exact h.elim
theorem cb_abs : CB X (.builtin "abs") pabs := CallR.imp call_abs fun vs H Q ⟨S, ps, e, r, h⟩ => by
  unfold pabs at h
  split at h
  · cases r with
    | cons r t => cases t; cases r; exact ⟨_, rfl, GoE.done h e .int⟩
  · exact h.elim
theorem cb_listF : CBF X (.type "list") plistF := CallR.imp call_list_of fun vs H Q ⟨S, ps, e, r, h⟩ => by
  unfold plistF at h
  split at h
  · cases r with
    | cons r t => cases t; cases r with
      | lst h1 r => exact ⟨_, _, rfl, .inl (SqL.of (e _ _ h1)), fun l hl => GoF.lst h e hl r⟩
  · cases r with
    | cons r t => cases t; cases r with
      | fls h1 r => exact ⟨_, _, rfl, .inl (e.seq h1), fun l hl => GoF.lst h e hl r⟩
  · cases r with
    | cons r t => cases t; cases r with
      | tup h1 r => exact ⟨_, _, rfl, .inr (seqT e h1), fun l hl => GoF.lst h e hl r⟩
  · exact h.elim
theorem cb_tuple : CB X (.type "tuple") ptuple := CallR.imp call_tuple_of fun vs H Q ⟨S, ps, e, r, h⟩ => by
  unfold ptuple at h
  split at h
  · cases r with
    | cons r t => cases t; cases r with
      | lst h1 r => exact ⟨_, _, rfl, .inl ⟨SqL.of (e _ _ h1), fun l hl => h _ _ _ (Ext.new e hl) (.tup (SqT.of upd_same) (r.mono (same_new (e.free hl))))⟩⟩
  · cases r with
    | cons r t => cases t; cases r with
      | fls h1 r => exact ⟨_, _, rfl, .inl ⟨e.seq h1, fun l hl => h _ _ _ (Ext.new e hl) (.tup (SqT.of upd_same) (r.mono (same_new (e.free hl))))⟩⟩
  · cases r with
    | cons r t => cases t; cases r with
      | tup h1 r => exact ⟨_, _, rfl, .inr ⟨seqT e h1, GoE.done h e (.tup h1 r)⟩⟩
  · exact h.elim
theorem cb_all (hc : X.calm = true) : CB X (.builtin "all") pall := CallR.imp (cr_all hc) fun vs H Q ⟨S, ps, e, r, h⟩ => by
  unfold pall at h
  split at h
  · split at h
    · rename_i bs hb
      cases r with
      | cons r t => cases t; cases r with
        | lst h1 r =>
          have hv := bools_vs r hb
          subst hv
          exact ⟨_, bs, rfl, SqL.of (e _ _ h1), GoE.done h e .bl⟩
    · exact h.elim
  · exact h.elim
theorem cb_any (hc : X.calm = true) : CB X (.builtin "any") pany := CallR.imp (cr_any hc) fun vs H Q ⟨S, ps, e, r, h⟩ => by
  unfold pany at h
  split at h
  · split at h
    · rename_i bs hb
      cases r with
      | cons r t => cases t; cases r with
        | lst h1 r =>
          have hv := bools_vs r hb
          subst hv
          exact ⟨_, bs, rfl, SqL.of (e _ _ h1), GoE.done h e .bl⟩
    · exact h.elim
  · exact h.elim
theorem cb_sum (hc : X.calm = true) : CB X (.builtin "sum") psum := CallR.imp (cr_sum hc) fun vs H Q ⟨S, ps, e, r, h⟩ => by
  unfold psum at h
  split at h
  · split at h
    · rename_i bs hb
      cases r with
      | cons r t => cases t; cases r with
        | lst h1 r =>
          have hv := intsP_vs r hb
          subst hv
          exact ⟨_, bs, rfl, SqL.of (e _ _ h1), GoE.done h e .int⟩
    · exact h.elim
  · exact h.elim
theorem alike_all_ints (n : Int) (ns : List Int) : PySem.W.AlikeAll (PyData.int n :: ns.map PyData.int) := by
  have aux : ∀ x ∈ (PyData.int n :: ns.map PyData.int), ∃ k, x = PyData.int k := by
    intro x hx
    rcases List.mem_cons.mp hx with rfl | hx
    · exact ⟨n, rfl⟩
    · obtain ⟨k, _, rfl⟩ := List.mem_map.mp hx
      exact ⟨k, rfl⟩
  refine ⟨fun x hx y hy => ?_, fun x hx => ?_⟩
  · obtain ⟨a, rfl⟩ := aux x hx
    obtain ⟨b, rfl⟩ := aux y hy
    simp only [PySem.W.alike]
  · obtain ⟨a, rfl⟩ := aux x hx
    exact fun z => by cases z
theorem pmaxI_ok {xs : List PV} {r : PV} (h : pmaxI xs = .ok r) : ∃ n ns, intsP xs = some (n :: ns) ∧ r = .int (maxOf n ns) := by
  unfold pmaxI at h
  split at h
  · rename_i n ns z; cases h; exact ⟨n, ns, z, rfl⟩
  · cases h
theorem pminI_ok {xs : List PV} {r : PV} (h : pminI xs = .ok r) : ∃ n ns, intsP xs = some (n :: ns) ∧ r = .int (minOf n ns) := by
  unfold pminI at h
  split at h
  · rename_i n ns z; cases h; exact ⟨n, ns, z, rfl⟩
  · cases h
theorem GoE.isok {K : PySem.W.Frag} {mg : Str → Option Value} {S H : Hp} {Q : VK} {r : R PV} (h : GoE K mg S H Q (fun _ _ _ => False) r) (hn : ∀ x, r ≠ .exc x) : ∃ p, r = .ok p := by
  cases r with
  | ok p => exact ⟨p, rfl⟩
  | exc x => exact absurd rfl (hn x)
  | bad => exact h.elim
theorem pmaxI_nx {xs : List PV} {x : PX} : pmaxI xs ≠ .exc x := fun h => by unfold pmaxI at h; split at h <;> cases h
theorem pminI_nx {xs : List PV} {x : PX} : pminI xs ≠ .exc x := fun h => by unfold pminI at h; split at h <;> cases h
theorem depth_ints (n : Int) (ns : List Int) : PyData.depthAll (PyData.int n :: ns.map PyData.int) = 0 := depthAll_ints (n :: ns)
theorem cb_max (hc : X.calm = true) (hu : X.A.units + 64 < cLine) : CB X (.builtin "max") pmax := by
  intro pins s σ H vs us Q I r h
  obtain ⟨S, ps, e, rp, h⟩ := h
  unfold pmax at h
  split at h
  · obtain ⟨p, hp⟩ := h.isok fun _ => pmaxI_nx
    obtain ⟨n, ns, hn, rfl⟩ := pmaxI_ok hp
    rw [hp] at h
    cases rp with
    | cons r1 t => cases t; cases r1 with
      | lst h1 r1 =>
        have hv := intsP_vs r1 hn
        subst hv
        refine cr_max hc pins s σ H _ us Q I r ⟨_, n :: ns, rfl, SqL.of (e _ _ h1), by simp, fun m hm1 hm2 => ?_⟩
        rw [← foldl_max hm1 hm2]
        exact GoE.done h e .int
  · obtain ⟨p, hp⟩ := h.isok fun _ => pmaxI_nx
    obtain ⟨n, ns, hn, rfl⟩ := pmaxI_ok hp
    rw [hp] at h
    cases rp with
    | cons r1 t => cases t; cases r1 with
      | tup h1 r1 =>
        have hv := intsP_vs r1 hn
        subst hv
        obtain ⟨its, rv, pl, hz⟩ := I.tuple (seqT e h1)
        obtain ⟨as, hr⟩ := Dp.readsAll I ((n :: ns).map PyData.int) _ its (dpAll_ints (n :: ns)) rv
        rw [Vals.ref1 r]
        refine PySem.W.max_tuple_data (I.ok.hd hc) pl hr (alike_all_ints n ns) (by rw [depth_ints]; omega) fun i v h' tk bs hi hv hk => ?_
        rw [PySem.W.maxD_ints] at hv
        cases hv
        exact ⟨.int _, H, I.kept hk, ⟨_, rfl⟩, GoE.done h e .int⟩
  · cases rp with
    | cons r1 t => cases t with
      | cons r2 t => cases t; cases r1; cases r2; exact call_max2 hc pins s σ H _ us Q I r ⟨_, _, rfl, GoE.done h e .int⟩
  · exact h.elim
theorem cb_min (hc : X.calm = true) (hu : X.A.units + 64 < cLine) : CB X (.builtin "min") pmin := by
  intro pins s σ H vs us Q I r h
  obtain ⟨S, ps, e, rp, h⟩ := h
  unfold pmin at h
  split at h
  · obtain ⟨p, hp⟩ := h.isok fun _ => pminI_nx
    obtain ⟨n, ns, hn, rfl⟩ := pminI_ok hp
    rw [hp] at h
    cases rp with
    | cons r1 t => cases t; cases r1 with
      | lst h1 r1 =>
        have hv := intsP_vs r1 hn
        subst hv
        refine cr_min hc pins s σ H _ us Q I r ⟨_, n :: ns, rfl, SqL.of (e _ _ h1), by simp, fun m hm1 hm2 => ?_⟩
        rw [← foldl_min hm1 hm2]
        exact GoE.done h e .int
  · obtain ⟨p, hp⟩ := h.isok fun _ => pminI_nx
    obtain ⟨n, ns, hn, rfl⟩ := pminI_ok hp
    rw [hp] at h
    cases rp with
    | cons r1 t => cases t; cases r1 with
      | tup h1 r1 =>
        have hv := intsP_vs r1 hn
        subst hv
        obtain ⟨its, rv, pl, hz⟩ := I.tuple (seqT e h1)
        obtain ⟨as, hr⟩ := Dp.readsAll I ((n :: ns).map PyData.int) _ its (dpAll_ints (n :: ns)) rv
        rw [Vals.ref1 r]
        refine PySem.W.min_tuple_data (I.ok.hd hc) pl hr (alike_all_ints n ns) (by rw [depth_ints]; omega) fun i v h' tk bs hi hv hk => ?_
        rw [PySem.W.minD_ints] at hv
        cases hv
        exact ⟨.int _, H, I.kept hk, ⟨_, rfl⟩, GoE.done h e .int⟩
  · cases rp with
    | cons r1 t => cases t with
      | cons r2 t => cases t; cases r1; cases r2; exact call_min2 hc pins s σ H _ us Q I r ⟨_, _, rfl, GoE.done h e .int⟩
  · exact h.elim
end

/-! ### isinstance -/
def tyName : PV → Option String
  | .non => some "NoneType" | .bl _ => some "bool" | .int _ => some "int" | .str _ => some "str"
  | .lst _ => some "list" | .fls _ => some "list" | .tup _ => some "tuple" | .dic _ => some "dict"
  | .obj _ _ => none
def isiT (n t : String) : Bool := n == t || (n == "bool" && t == "int")
def tyKnown (t : String) : Bool := ["int", "bool", "str", "list", "tuple", "dict"].contains t
theorem kit_known : ∀ n ∈ ["NoneType", "bool", "int", "str", "list", "tuple", "dict"], ∀ t ∈ ["int", "bool", "str", "list", "tuple", "dict"], kitB n t = some (isiT n t) := by decide +kernel
theorem ty_of {K : PySem.W.Frag} {mg : Str → Option Value} {S H : Hp} {v : V} {p : PV} {n : String} (e : Same S H) (r : Rep K mg S v p) (h : tyName p = some n) : TyX K H v (.type n) ∧ n ∈ ["NoneType", "bool", "int", "str", "list", "tuple", "dict"] := by
  cases r with
  | non => cases h; exact ⟨.base .non, by decide⟩
  | bl => cases h; exact ⟨.base (.bl _), by decide⟩
  | int => cases h; exact ⟨.base (.int _), by decide⟩
  | str => cases h; exact ⟨.base (.str _), by decide⟩
  | lst h1 r => cases h; exact ⟨.base (.lst (e _ _ h1)), by decide⟩
  | fls h1 r =>
    cases h
    refine ⟨?_, by decide⟩
    rcases e.seq h1 with (q | ⟨o, q⟩) | ⟨o, its, m, q, c, _⟩
    · exact .base (.lst q)
    · exact .base (.frz q)
    · exact .kList q c
  | tup h1 r =>
    cases h
    refine ⟨?_, by decide⟩
    rcases seqT e h1 with (q | ⟨o, q⟩) | ⟨o, its, m, q, c, _⟩
    · exact .base (.tup q)
    · exact .fTuple q
    · exact .kTuple q c
  | obj _ _ _ _ => cases h
  | dic h1 _ _ => cases h; exact ⟨.base (.dK (e _ _ h1)), by decide⟩
def pisi (ts : List String) : PV → R PV := fun p => match tyName p with
  | some n => if ts.all tyKnown = true then .ok (.bl (ts.any fun t => isiT n t)) else .bad
  | none => .bad
def tTys (ts : List String) : TA := ts.foldr (fun t r => tCons (tC (.ty t)) r) tNil
section
variable {X : Cx} {B : Bs} {W : WX} {e : Expr} {es : List Expr} {pos p p2 pp : Pos} {f : Env → R PV}
theorem tys_nil : PA X [] (tTys []) := pa_nil
theorem tys_cons {x : Str} {t : String} {ts : List String} (hm : X.mg x = none) (hv : bootBuiltins x = some (.type t)) (h : PA X es (tTys ts)) (hg : Gl X x := by rfl) (hn : x ≠ "__name__" := by decide) (hd : (x == ("__debug__" : Str)) = false := by decide)
    (hs : starEach (.Name x p :: es) X.env = (false, eval (.Name x p) X.env) :: starEach es X.env := by rfl) : PA X (.Name x p :: es) (tTys (t :: ts)) := pa_cons (pe_bltn (v := V.ty t) hg hm hv rfl hn hd) h hs
theorem known_mem {t : String} (h : tyKnown t = true) : t ∈ ["int", "bool", "str", "list", "tuple", "dict"] := by
  unfold tyKnown at h
  simpa using h
theorem e_isi {x : Str} {t : String} {b : Pos} (he : EE X B W e f) (hm : X.mg "isinstance" = none) (hmt : X.mg x = none) (hv : bootBuiltins x = some (.type t)) (hvi : bootBuiltins "isinstance" = some (.builtin "isinstance")) (hg : Gl X "isinstance" := by rfl) (hgt : Gl X x := by rfl) (hn : x ≠ "__name__" := by decide) (hd : (x == ("__debug__" : Str)) = false := by decide)
    (hs1 : starEach [e, .Name x b] X.env = (false, eval e X.env) :: starEach [.Name x b] X.env := by rfl) (hs2 : starEach [.Name x b] X.env = (false, eval (.Name x b) X.env) :: starEach [] X.env := by rfl) (hpl : (backTo pos (starEach [.Name x b] X.env)).any (·.1) = false := by rfl) :
    EE X B W (.Call (.Name "isinstance" p) [e, .Name x b] [] pos) (pUn (pisi [t]) f) :=
  PE.imp (pe_callB call_isi hg hm hvi (pa_cons he (pa_cons (pe_bltn (v := V.ty t) hgt hmt hv rfl hn hd) pa_nil hs2) hs1) (by decide) (by decide) hs1 hpl) fun σ H Q ⟨ρ, S, Rl, q⟩ => ⟨ρ, S, Rl, GoE.at q fun v p S1 H1 e r h => by
    unfold pisi at h
    cases z : tyName p with
    | none => simp only [z] at h; exact h.elim
    | some n =>
      simp only [z] at h
      split at h
      · rename_i hk
        obtain ⟨t1, t2⟩ := ty_of e.sh r z
        have hk' : tyKnown t = true := by simpa using hk
        have h := GoE.done h e.sh .bl
        exact ⟨v, .ty t, .type n, .type t, isiT n t, rfl, .ty t, t1, kit_ty (kit_known n t2 t (known_mem hk')), by simpa using h⟩
      · exact h.elim⟩
theorem kitAny_tys {K : PySem.W.Frag} {n : String} (hn : n ∈ ["NoneType", "bool", "int", "str", "list", "tuple", "dict"]) : ∀ ts : List String, ts.all tyKnown = true → PySem.W.kitAny K (.type n) (ts.map Value.type) = some (ts.any fun t => isiT n t)
  | [], _ => rfl
  | t :: ts, h => by
    rw [List.all_cons, Bool.and_eq_true] at h
    refine kitAny_cons (kit_ty (kit_known n hn t (known_mem h.1))) (fun hb => ?_) (fun hb => ?_)
    · rw [kitAny_tys hn ts h.2, List.any_cons, hb, Bool.false_or]
    · rw [List.any_cons, hb, Bool.true_or]
theorem clsV_tys : ∀ ts : List String, Paired ClsV (ts.map V.ty) (ts.map Value.type)
  | [] => .nil
  | t :: ts => .cons (.ty t) (clsV_tys ts)
theorem tTys_go {σ : L2.St} {H : Hp} {Q : List V → Hp → Prop} : ∀ {ts : List String}, Q (ts.map V.ty) H → tTys ts σ H Q
  | [], h => h
  | t :: ts, h => tTys_go (ts := ts) (Q := fun xs H' => Q (V.ty t :: xs) H') h
theorem e_isiT {ts : List String} {kk} {tpos : Pos} (he : EE X B W e f) (ht : PA X es (tTys ts)) (hm : X.mg "isinstance" = none) (hvi : bootBuiltins "isinstance" = some (.builtin "isinstance")) (hl : ts.length ≤ sizeLine) (hg : Gl X "isinstance" := by rfl)
    (hs1 : starEach [e, .Tuple es kk tpos] X.env = (false, eval e X.env) :: starEach [.Tuple es kk tpos] X.env := by rfl) (hs2 : starEach [.Tuple es kk tpos] X.env = (false, eval (.Tuple es kk tpos) X.env) :: starEach [] X.env := by rfl) (hpl : (backTo pos (starEach [.Tuple es kk tpos] X.env)).any (·.1) = false := by rfl) :
    EE X B W (.Call (.Name "isinstance" p) [e, .Tuple es kk tpos] [] pos) (pUn (pisi ts) f) :=
  PE.imp (pe_callB call_isiT hg hm hvi (pa_cons he (pa_cons (pe_tup ht) pa_nil hs2) hs1) (by decide) (by decide) hs1 hpl) fun σ H Q ⟨ρ, S, Rl, q⟩ => ⟨ρ, S, Rl, GoE.at q fun v p S1 H1 e r h => by
    unfold pisi at h
    cases z : tyName p with
    | none => simp only [z] at h; exact h.elim
    | some n =>
      simp only [z] at h
      split at h
      · rename_i hk
        refine tTys_go ⟨by simpa using hl, fun a ha => ?_⟩
        obtain ⟨t1, t2⟩ := ty_of ((Ext.own e.sh ha).sh) r z
        exact ⟨v, a, ts.map V.ty, .type n, ts.map Value.type, _, rfl, upd_same, clsV_tys ts, t1, kitAny_tys t2 ts hk, h _ _ _ (Ext.own e.sh ha) .bl⟩
      · exact h.elim⟩
end
end Pu
set_option Elab.async false
set_option linter.all false
set_option maxRecDepth 100000
set_option maxHeartbeats 4000000
namespace Pu
open PySem PySem.Spec PyProof.Rows L2

section
variable {P : Program} {w : World} {K : PySem.W.Frag} {mg : Str → Option Value} {base : Heap} {N : List Str} {qual : Str} {sc : Scope} {f : Addr} {cd : Value} {A : Around} {outer : List PySem.Env} {s : Shared} {H : Hp} {E : XK}
theorem cx_tk : Takes (cxOf (L2.CX P w) P w K mg base N qual sc f cd A outer s H E) (fun cls d _ H => E cls d H) := takes_of rfl rfl rfl rfl
theorem cx_px : Px (cxOf (L2.CX P w) P w K mg base N qual sc f cd A outer s H E) (fun cls d _ H => E cls d H) := px_of cx_tk
theorem cx_po : PassesOwn (model P w) (A.deeper (envOfC qual sc s.heap.objs.size f cd)) (envOfC qual sc s.heap.objs.size f cd) (cxOf (L2.CX P w) P w K mg base N qual sc f cd A outer s H E).xe :=
  passes_of (X := cxOf (L2.CX P w) P w K mg base N qual sc f cd A outer s H E) rfl
end
theorem hu65 {k : Nat} {A : Around} (hr : Room k A) : A.units + 65 < cLine := by have := hr.un; omega
theorem hu64 {k : Nat} {A : Around} (hr : Room k A) : A.units + 64 < cLine := by have := hr.un; omega
def sBad : Env → O := fun _ => .bad
theorem s_never {X : Cx} {B : Bs} {W : WX} {st : Stmt} : ES X B W st sBad := PS.imp ps_never fun D σ H ⟨ρ, S, Rl, q⟩ => q.elim
def pBad : Env → R PV := fun _ => .bad
def unF (f : Env → R Slot) : Env → R PV := fun ρ => (f ρ).bind toPV
def inF (f : Env → R PV) : Env → R Slot := fun ρ => (f ρ).map Slot.sh
section
variable {X : Cx} {B : Bs} {W : WX} {e : Expr}
theorem e_un {f : Env → R Slot} (h : EF X B W e f) : EE X B W e (unF f) := toE h
theorem f_in {f : Env → R PV} (h : EE X B W e f) : EF X B W e (inF f) := toF h
theorem go_id {K : PySem.W.Frag} {mg : Str → Option Value} {g : Env → R Slot} : ∀ S H Q E ρ, GoF K mg S H Q E (g ρ) → GoF K mg S H Q E (g ρ) := fun _ _ _ _ _ h => h
theorem go_un {K : PySem.W.Frag} {mg : Str → Option Value} {g : Env → R Slot} : ∀ S H Q E ρ, GoF K mg S H Q E (inF (unF g) ρ) → GoF K mg S H Q E (g ρ) := fun S H Q E ρ h => GoF.of (GoF.ofV h)
end
theorem fun_of {K : PySem.W.Frag} {x qual : Str} {st : Stmt} {f : Addr} {fd : FuncData} (F : FunD K x qual (defArgs st) (defBody st) (defScope st) [] [] f fd) : Fun K x qual st f fd := by
  obtain ⟨⟨oc, od, dV, kV, doc, pm, an, cdv, ct, osl, rfl, lk, hcd, hd, hk⟩, kp⟩ := F
  rcases hd with ⟨_, rfl⟩ | ⟨h, _⟩
  · exact ⟨⟨oc, od, kV, doc, pm, an, cdv, ct, osl, rfl, lk, hcd⟩, kp⟩
  · exact absurd rfl h

/-! ### the text's own values -/
section
variable {K : PySem.W.Frag} {h : Heap} {mg : Str → Option Value}
theorem top_int (X : K.In h) (G : h.Ns mainGlobals mg) {x : Str} {i : Int} (c : (He.Fa.int x i).ok K = true) : TopV K mg x (.int i) := by
  obtain ⟨t, e⟩ := He.int_ok X G c
  exact ⟨⟨.int i, _, e, ⟨t, rfl⟩, fun _ => .int⟩⟩
theorem top_str (X : K.In h) (G : h.Ns mainGlobals mg) {x z : Str} (c : (He.Fa.str x z).ok K = true) : TopV K mg x (.str z) := by
  obtain ⟨t, e⟩ := He.str_ok X G c
  exact ⟨⟨.str z, _, e, ⟨t, rfl⟩, fun _ => .str⟩⟩
/-- a class of exceptions without own __init__, by its name -/
structure ExcN (K : PySem.W.Frag) (mg : Str → Option Value) (c : Str) : Prop where
  ex : ∃ C, mg c = some (.ref C) ∧ PySem.W.excIn K C He.veBase "ValueError.__new__" = true ∧ PySem.W.keepIn K (.ref C) = true ∧ PySem.W.subIn K (.ref C) (.type "BaseException") = some true ∧ PySem.W.typeIn K (.ref C) = some (.type "type")
theorem exc_n (X : K.In h) (G : h.Ns mainGlobals mg) {x : Str} (g : (He.Fa.glo x).ok K = true) (c : (He.Fa.exc x).ok K = true) : ExcN K mg x := by
  obtain ⟨h1, h2, h3, h4⟩ := He.exc_ok c
  exact ⟨⟨_, He.glo_ok X G g, h1, h2, h3, h4⟩⟩
theorem s_raise {X : Cx} {B : Bs} {W : WX} {c m : Str} {j : Nat} {p p2 p3 pos : Pos} (T : ExcN X.K X.mg c) (hc : X.calm = true) (tk : Takes X W) (hg : Gl X c := by rfl) (hdb : (c == ("__debug__" : Str)) = false := by decide) :
    ES X B W (.Raise (some (.Call (.Name c p) [.Constant (.str m) j p2] [] p3)) none pos) (sRaise ⟨c, []⟩) := by
  obtain ⟨C, g, h1, h2, h3, h4⟩ := T.ex
  exact s_raise0 hc tk (pmk_own PySem.F.excBase_ValueError h1 g h2 (raises_own h3 h4) hg hdb) g
theorem cls_n (X : K.In h) (G : h.Ns mainGlobals mg) {x : Str} (g : (He.Fa.glo x).ok K = true) (c : (He.Fa.cls x).ok K = true) : ClsN K mg x (He.ga K x) := ⟨He.glo_ok X G g, He.cls_ok c⟩
end
end Pu
set_option Elab.async false
set_option linter.all false
set_option maxRecDepth 100000
set_option maxHeartbeats 4000000
namespace Pu
open PySem PySem.Spec PyProof.Rows L2
section
variable {P : Program} {w : World} {K : PySem.W.Frag} {mg : Str → Option Value} {base : Heap}
theorem ct_nil {c : Value} : Catch K mg c ([] : List (Str × Bool)) := fun y b h => by cases h
theorem ct_cons {x y : Addr} {z : Str} {b : Bool} {t : List (Str × Bool)} (hm : mg z = some (.ref x)) (h : PySem.W.exmOne K (.ref x) (.ref y) = some b) (r : Catch K mg (.ref y) t) : Catch K mg (.ref y) ((z, b) :: t) := fun u d q => by
  rw [List.lookup_cons] at q
  split at q
  · rename_i e
    cases q
    rw [eq_of_beq e]
    exact ⟨_, hm, h⟩
  · exact r u d q
/-- a def from which no exception leaves -/
theorem FnOk.noexc {k : Nat} {f : Addr} {fd : FuncData} {ps : List Str} {sp : Sp} (F : FnOk P w K mg base (L2.CX P w) k f fd ps sp) : FnOk P w K mg base L2.CX0 k f fd ps (fun vs H Q _ => sp vs H Q fun _ _ _ => False) :=
  ⟨fun vs H Q E h => F.len vs H Q _ h, fun A outer s H args us vs Q E hr e b r h => codeAny_mono (F.run A outer s H args us vs Q _ hr e b r h) fun r s' q => by
    cases r with
    | ok fl => cases fl <;> exact q
    | error e => exact absurd q (by rintro ⟨_, _, _, _, _, _, _, _, _, _, _, _, h⟩; exact h)⟩
theorem maker_of {x qual c : Str} {st : Stmt} {f C : Addr} {fd : FuncData} {N ps : List Str} {k : Nat} (fb : Pu.Env → O) (F : Fun K x qual st f fd) (Sc : FnScope N ps (defScope st)) (T : ClsN K mg c C) (M : Mk K C f) (b : Binds K fd ps [])
    (hb : ∀ (cdv : Value) (A : Around) (outer : List PySem.Env) (s : Shared) (H : Hp) (E : XK) (B : Bs), Room k (A.deeper (envOfC qual (defScope st) s.heap.objs.size f cdv)) →
      EB (cxOf (L2.CX P w) P w K mg base N qual (defScope st) f cdv A outer s H E) B (fun cls d _ H => E cls d H) (defBody st) fb) : Maker P w K mg base (k + 1) c (mInit c ps.length N.length fb) :=
  ⟨⟨C, f, fd, ps, T, M, init_fn fb F Sc T.mg hb, b⟩⟩
theorem reps_ints {S : Hp} : ∀ ns : List Int, Reps K mg S (ns.map V.int) (ns.map PV.int)
  | [] => .nil
  | n :: ns => .cons .int (reps_ints ns)
theorem law_sp {m : List PV → R PV} {H : Hp} {a : Addr} {ns : List Int} (hS : SqL K H a (ns.map V.int)) (h : m [.fls (ns.map PV.int)] = .ok (.bl true)) : spP K mg m [.ref a] H (fun v _ => v = .bl true) fun _ _ _ => False := by
  refine ⟨H, [.fls (ns.map PV.int)], Same.refl _, .cons (.fls hS ?_) .nil, ?_⟩
  · exact reps_ints ns
  · rw [h]
    intro v S' H' e r
    cases r; rfl
end
end Pu
set_option Elab.async false
set_option linter.all false
set_option maxRecDepth 100000
set_option maxHeartbeats 4000000
namespace Pu
open PySem PySem.Spec PyProof.Rows L2
/-! ### the mirrors, step by step (for the evaluator) -/
section
variable {α β : Type} (ρ : Pu.Env) (f g : Pu.Env → O) (c c2 : Pu.Env → R Bool) (e e2 e3 : Pu.Env → R PV) (t t2 : Pu.Env → R Slot) (es : Pu.Env → R (List PV)) (i j n : Nat) (fr : List Nat) (o : PV → PV → R PV) (oF : PV → PV → R Slot)
@[simp ↓] theorem ev_bind (r : R α) (k : α → R β) : R.bind r k = (match r with | .ok a => k a | .exc x => .exc x | .bad => .bad) := rfl
@[simp ↓] theorem ev_map (r : R α) (k : α → β) : R.map k r = (match r with | .ok a => .ok (k a) | .exc x => .exc x | .bad => .bad) := by cases r <;> rfl
@[simp ↓] theorem ev_sSeq : sSeq f g ρ = (match f ρ with | .nx ρ' => g ρ' | .rt p r => .rt p r | .bk r => .bk r | .ct r => .ct r | .exc x r => .exc x r | .bad => .bad) := by unfold sSeq; cases f ρ <;> rfl
@[simp ↓] theorem ev_sIf : sIf fr c f g ρ = (match c (frzs fr ρ) with | .ok b => if b = true then f ρ else g ρ | .exc x => .exc x (frzs fr ρ) | .bad => .bad) := by
  unfold sIf; cases c (frzs fr ρ) with
  | ok b => cases b <;> rfl
  | _ => rfl
@[simp ↓] theorem ev_sSet : sSet i fr t ρ = (match t (frzs fr ρ) with | .ok s => .nx ((back fr s ρ).set i s) | .exc x => .exc x (frzs fr ρ) | .bad => .bad) := rfl
@[simp ↓] theorem ev_sExpr : sExpr fr e ρ = (match e (frzs fr ρ) with | .ok _ => .nx ρ | .exc x => .exc x (frzs fr ρ) | .bad => .bad) := rfl
@[simp ↓] theorem ev_sRet : sRet fr e ρ = (match e (frzs fr ρ) with | .ok p => .rt p (back fr (.sh p) ρ) | .exc x => .exc x (frzs fr ρ) | .bad => .bad) := rfl
@[simp ↓] theorem ev_sRetN : sRetN ρ = .rt .non ρ := rfl
@[simp ↓] theorem ev_sNx : sNx ρ = .nx ρ := rfl
@[simp ↓] theorem ev_sBk : sBk ρ = .bk ρ := rfl
@[simp ↓] theorem ev_sCt : sCt ρ = .ct ρ := rfl
@[simp ↓] theorem ev_sBad : sBad ρ = .bad := rfl
@[simp ↓] theorem ev_sRaise (x : PX) : sRaise x ρ = .exc x ρ := rfl
@[simp ↓] theorem ev_sApp : sApp i fr e ρ = (match (frzs fr ρ)[i]? with
  | some (.ow xs) => (match e (frzs fr ρ) with
    | .ok p => if xs.length < sizeLine then .nx ((back fr (.sh p) ρ).set i (.ow (xs ++ [p]))) else .bad
    | .exc x => .exc x (frzs fr ρ)
    | .bad => .bad)
  | _ => .bad) := rfl
@[simp ↓] theorem ev_sFor (it : Pu.Env → R (List PV)) (gg : PV → Pu.Env → R Pu.Env) : sFor fr it gg f ρ = (match it (frzs fr ρ) with | .ok ps => forL gg f ps (frzs fr ρ) | .exc x => .exc x (frzs fr ρ) | .bad => .bad) := rfl
@[simp ↓] theorem ev_sAug : sAug i fr o e ρ = (match gv ρ i with
  | .ok p => (match e (frzs fr ρ) with
    | .ok q => (match o p q with
      | .ok r => .nx ((back fr (.sh r) ρ).set i (.sh r))
      | _ => .bad)
    | .exc x => .exc x (frzs fr ρ)
    | .bad => .bad)
  | _ => .bad) := rfl
@[simp ↓] theorem ev_sPar : sPar i j t t2 ρ = (match t ρ with
  | .ok s => (match t2 ρ with
    | .ok t => .nx ((ρ.set i s).set j t)
    | .exc x => .exc x ρ
    | .bad => .bad)
  | .exc x => .exc x ρ
  | .bad => .bad) := rfl
@[simp ↓] theorem ev_sAsg (gg : PV → Pu.Env → R Pu.Env) : sAsg fr gg e ρ = (match e (frzs fr ρ) with
  | .ok p => (match gg p (back fr (.sh p) ρ) with
    | .ok ρ' => .nx ρ'
    | _ => .bad)
  | .exc x => .exc x (frzs fr ρ)
  | .bad => .bad) := rfl
@[simp ↓] theorem ev_sTry (tbl : List (Str × Bool)) : sTry tbl f g ρ = (match f ρ with
  | .exc x ρ' => (match tbl.lookup x.c with
    | some true => noxO (g ρ')
    | some false => .exc x ρ'
    | none => .bad)
  | .nx r => .nx r | .rt p r => .rt p r | .bk r => .bk r | .ct r => .ct r | .bad => .bad) := by unfold sTry; cases f ρ <;> rfl
@[simp ↓] theorem ev_sSetF (k n : Str) : sSetF i k n t ρ = (match ρ[i]? with
  | some (.oo c' fs) => (match t ρ with
    | .ok t => if c' = k ∧ fs.length < 1000 then .nx (ρ.set i (.oo k (putS n t fs))) else .bad
    | .exc x => .exc x ρ
    | .bad => .bad)
  | _ => .bad) := rfl
@[simp ↓] theorem ev_sSetIx : sSetIx i fr e e2 ρ = (match (frzs fr ρ)[i]? with
  | some (.ow xs) => (match e2 (frzs fr ρ) with
    | .ok p => (match e (frzs fr ρ) with
      | .ok (.int j) => (match ixN xs.length j with
        | some n => .nx ((back fr (.sh p) ρ).set i (.ow (xs.set n p)))
        | none => .bad)
      | _ => .bad)
    | .exc x => .exc x (frzs fr ρ)
    | .bad => .bad)
  | _ => .bad) := rfl
@[simp ↓] theorem ev_pVar : pVar i ρ = (match ρ[i]? with | some (.sh p) => .ok p | _ => .bad) := rfl
@[simp ↓] theorem ev_gv : gv ρ i = (match ρ[i]? with | some (.sh p) => .ok p | _ => .bad) := rfl
@[simp ↓] theorem ev_pC (p : PV) : pC p ρ = .ok p := rfl
@[simp ↓] theorem ev_pBin : pBin o e e2 ρ = ((e ρ).bind fun p => (e2 ρ).bind fun q => nox (o p q)) := rfl
@[simp ↓] theorem ev_pBinF : pBinF oF e e2 ρ = ((e ρ).bind fun p => (e2 ρ).bind fun q => nox (oF p q)) := rfl
@[simp ↓] theorem ev_pUn (u : PV → R PV) : pUn u e ρ = ((e ρ).bind fun p => nox (u p)) := rfl
@[simp ↓] theorem ev_pB : pB e ρ = ((e ρ).bind asB) := rfl
@[simp ↓] theorem ev_pTr : pTr e ρ = ((e ρ).bind pTru) := rfl
@[simp ↓] theorem ev_pAndT : pAndT c c2 ρ = ((c ρ).bind fun b => if b = true then c2 ρ else .ok false) := rfl
@[simp ↓] theorem ev_pOrT : pOrT c c2 ρ = ((c ρ).bind fun b => if b = true then .ok true else c2 ρ) := rfl
@[simp ↓] theorem ev_pNotT : pNotT c ρ = ((c ρ).bind fun b => .ok (!b)) := rfl
def asV (r : R PV) : R PV := match r with
  | r => r
@[simp ↓] theorem ev_pAnd : pAnd e e2 ρ = (match e ρ with | .ok p => (match p with | .bl b => if b = true then e2 ρ else .ok (.bl false) | _ => .bad) | .exc x => .exc x | .bad => .bad) := by
  unfold pAnd; cases e ρ with
  | ok p => cases p with
    | bl b => cases b <;> rfl
    | _ => rfl
  | _ => rfl
@[simp ↓] theorem ev_pOr : pOr e e2 ρ = (match e ρ with | .ok p => (match p with | .bl b => if b = true then .ok (.bl true) else e2 ρ | _ => .bad) | .exc x => .exc x | .bad => .bad) := by
  unfold pOr; cases e ρ with
  | ok p => cases p with
    | bl b => cases b <;> rfl
    | _ => rfl
  | _ => rfl
@[simp ↓] theorem ev_pNot : pNot e ρ = ((e ρ).bind fun p => match p with | .bl b => .ok (.bl (!b)) | _ => .bad) := rfl
@[simp ↓] theorem ev_pIf : pIf c e e2 ρ = ((c ρ).bind fun b => if b = true then e ρ else e2 ρ) := rfl
@[simp ↓] theorem ev_pNil : pNil ρ = .ok [] := rfl
@[simp ↓] theorem ev_pCons : pCons e es ρ = ((e ρ).bind fun p => (es ρ).bind fun ps => .ok (p :: ps)) := rfl
@[simp ↓] theorem ev_pTup : pTup es ρ = ((es ρ).bind mkTup) := rfl
@[simp ↓] theorem ev_pLstF : pLstF es ρ = ((es ρ).bind mkLst) := rfl
@[simp] theorem ev_mkTup (ps : List PV) : mkTup ps = if ps.length ≤ sizeLine then .ok (.tup ps) else .bad := rfl
@[simp] theorem ev_mkLst (ps : List PV) : mkLst ps = if ps.length ≤ sizeLine then .ok (.ow ps) else .bad := rfl
@[simp ↓] theorem ev_pCal (u : List PV → R PV) : pCal u es ρ = ((es ρ).bind fun ps => nox (u ps)) := rfl
@[simp ↓] theorem ev_pCalF (u : List PV → R Slot) : pCalF u es ρ = ((es ρ).bind fun ps => nox (u ps)) := rfl
@[simp ↓] theorem ev_pFn (u : List PV → R PV) : pFn u es ρ = ((es ρ).bind u) := rfl
@[simp ↓] theorem ev_pIxO : pIxO i e ρ = (match ρ[i]? with | some (.ow xs) => (e ρ).bind fun q => nox (pIxV (.lst xs) q) | some (.sh p) => (e ρ).bind fun q => nox (pIxV p q) | _ => .bad) := rfl
@[simp ↓] theorem ev_pPart : pPart e ρ = ((e ρ).bind fun p => match p with | .int i => .ok (some i) | _ => .bad) := rfl
@[simp ↓] theorem ev_pNoPart : pNoPart ρ = .ok none := rfl
@[simp ↓] theorem ev_pSli (l u : Pu.Env → R (Option Int)) : pSli e l u ρ = ((e ρ).bind fun p => (l ρ).bind fun lo => (u ρ).bind fun hi => nox (pSlV p lo hi)) := rfl
@[simp ↓] theorem ev_pSliO (l u : Pu.Env → R (Option Int)) : pSliO i l u ρ = (match ρ[i]? with | some (.ow xs) => (l ρ).bind fun lo => (u ρ).bind fun hi => .ok (.ow (cutP xs lo hi)) | some (.sh p) => (l ρ).bind fun lo => (u ρ).bind fun hi => nox (pSlV p lo hi) | _ => .bad) := rfl
@[simp ↓] theorem ev_pSeq : pSeq e ρ = ((e ρ).bind seqI) := rfl
@[simp ↓] theorem ev_pIt (u : List PV → R (List PV)) : pIt u es ρ = ((es ρ).bind u) := rfl
@[simp] theorem ev_seq1 (xs) : seqI (.lst xs) = .ok xs := rfl
@[simp] theorem ev_seq2 (xs) : seqI (.tup xs) = .ok xs := rfl
@[simp] theorem ev_seq3 (xs) : seqI (.fls xs) = .ok xs := rfl
@[simp ↓] theorem ev_gNam (p : PV) : gNam i p ρ = .ok (ρ.set i (.sh p)) := rfl
@[simp ↓] theorem ev_gsNil : gsNil [] ρ = .ok ρ := rfl
@[simp ↓] theorem ev_gsCons (gg : PV → Pu.Env → R Pu.Env) (gs : List PV → Pu.Env → R Pu.Env) (p : PV) (ps : List PV) : gsCons gg gs (p :: ps) ρ = ((gg p ρ).bind fun r => gs ps r) := rfl
@[simp ↓] theorem ev_gTupP (gs : List PV → Pu.Env → R Pu.Env) (ps : List PV) : gTupP n gs (.tup ps) ρ = (if ps.length = n then gs ps ρ else .bad) := rfl
@[simp ↓] theorem ev_pComp (own : List Nat) (it : Pu.Env → R (List PV)) (gg : PV → Pu.Env → R Pu.Env) : pComp own it gg c e ρ = ((it ρ).bind fun ps => (compL gg c e (wipeE ρ own) ps).bind fun vs => if vs.length ≤ sizeLine then .ok (.ow vs) else .bad) := rfl
@[simp ↓] theorem ev_tYesP : tYesP ρ = .ok true := rfl
@[simp ↓] theorem ev_tgNam (i : Nat) : Tg.g (.nam i) = gNam i := rfl
@[simp ↓] theorem ev_tgTup (is : List Nat) : Tg.g (.tup is) = gTupP is.length (is.foldr (fun i r => gsCons (gNam i) r) gsNil) := rfl
@[simp ↓] theorem ev_pFldO (k n : Str) : pFldO i k n ρ = (match ρ[i]? with
  | some (.sh p) => pFldV k n p
  | some (.oo c' fs) => if c' = k then (match fs.lookup n with | some (.sh p) => .ok p | _ => .bad) else .bad
  | _ => .bad) := rfl
@[simp] theorem ev_pFldV (k k' n : Str) (fs) : pFldV k n (.obj k' fs) = if k' = k then (match fs.lookup n with | some p => .ok p | none => .bad) else .bad := rfl
@[simp ↓] theorem ev_pMeth (k m : Str) (mf : List PV → R PV) : pMeth k m mf e es ρ = ((e ρ).bind fun p => match p with | .obj c' fl => if c' = k ∧ (fl.lookup m).isNone = true then (es ρ).bind fun ps => mf (p :: ps) else .bad | _ => .bad) := rfl
@[simp ↓] theorem ev_pMake (k : Str) (mi : List PV → R (List (Str × Slot))) : pMake k mi es ρ = ((es ρ).bind fun ps => (mi ps).bind fun fl => .ok (.oo k fl)) := rfl
@[simp ↓] theorem ev_pChain (o2 : PV → PV → R PV) : pChain o o2 e e2 e3 ρ = ((e ρ).bind fun p => (e2 ρ).bind fun q => (nox (o p q)).bind fun r => match r with
  | .bl true => (e3 ρ).bind fun t => nox (o2 q t)
  | .bl false => .ok (.bl false)
  | _ => .bad) := rfl
@[simp ↓] theorem ev_unF : unF t ρ = ((t ρ).bind toPV) := rfl
@[simp ↓] theorem ev_inF : inF e ρ = (match e ρ with | .ok p => .ok (.sh p) | .exc x => .exc x | .bad => .bad) := by show R.map Slot.sh (e ρ) = _; cases e ρ <;> rfl
@[simp] theorem ev_toPVs1 (p : PV) : toPV (.sh p) = .ok p := rfl
@[simp] theorem ev_toPVs2 (p) : toPV (.ow p) = .ok (.lst p) := rfl
@[simp] theorem ev_toPVs3 (k : Str) (fs : List (Str × Slot)) : toPV (.oo k fs) = (toPVs fs).bind fun ps => .ok (.obj k ps) := by rw [toPV]
@[simp] theorem ev_toPVs0 : toPVs [] = .ok [] := rfl
@[simp] theorem ev_toPVsC (f : Str) (s : Slot) (fs : List (Str × Slot)) : toPVs ((f, s) :: fs) = (toPV s).bind fun p => (toPVs fs).bind fun ps => .ok ((f, p) :: ps) := by rw [toPVs]
@[simp] theorem ev_plt (i j : Int) : pcmp o2 (.int i) (.int j) = .ok (.bl (o2 i j)) := rfl
@[simp] theorem ev_peqI (i j : Int) : peq (.int i) (.int j) = .ok (.bl (decide (i = j))) := rfl
@[simp] theorem ev_pneI (i j : Int) : pne (.int i) (.int j) = .ok (.bl (!decide (i = j))) := rfl
@[simp] theorem ev_peqS (i j : Str) : peq (.str i) (.str j) = .ok (.bl (decide (i = j))) := rfl
@[simp] theorem ev_pneS (i j : Str) : pne (.str i) (.str j) = .ok (.bl (!decide (i = j))) := rfl
@[simp] theorem ev_peqB (i j : Bool) : peq (.bl i) (.bl j) = .ok (.bl (decide (i = j))) := rfl
@[simp] theorem ev_pneB (i j : Bool) : pne (.bl i) (.bl j) = .ok (.bl (!decide (i = j))) := rfl
@[simp] theorem ev_padd (i j : Int) : padd (.int i) (.int j) = .ok (.int (i + j)) := rfl
@[simp] theorem ev_paddI (i j : Int) : paddI (.int i) (.int j) = .ok (.int (i + j)) := rfl
@[simp] theorem ev_psub (i j : Int) : psub (.int i) (.int j) = .ok (.int (i - j)) := rfl
@[simp] theorem ev_pneg (i : Int) : pneg (.int i) = .ok (.int (-i)) := rfl
@[simp] theorem ev_pmod (i j : Int) : pmod (.int i) (.int j) = if j ≠ 0 then .ok (.int (i.fmod j)) else .bad := rfl
@[simp] theorem ev_plenL (xs : List PV) : plen [.lst xs] = .ok (.int xs.length) := rfl
@[simp] theorem ev_plenF (xs : List PV) : plen [.fls xs] = .ok (.int xs.length) := rfl
@[simp] theorem ev_plenT (xs : List PV) : plen [.tup xs] = .ok (.int xs.length) := rfl
@[simp] theorem ev_lstL (xs : List PV) : plistF [.lst xs] = .ok (.ow xs) := rfl
@[simp] theorem ev_lstT (xs : List PV) : plistF [.tup xs] = .ok (.ow xs) := rfl
@[simp] theorem ev_tupL (xs : List PV) : ptuple [.lst xs] = .ok (.tup xs) := rfl
@[simp] theorem ev_tupT (xs : List PV) : ptuple [.tup xs] = .ok (.tup xs) := rfl
@[simp] theorem ev_pintI (i : Int) : pint [.int i] = .ok (.int i) := rfl
@[simp] theorem ev_pintB (b : Bool) : pint [.bl b] = .ok (.int (if b = true then 1 else 0)) := rfl
@[simp] theorem ev_ixL (xs : List PV) (i : Int) : pIxV (.lst xs) (.int i) = (match atI xs i with | some p => .ok p | none => .bad) := rfl
@[simp] theorem ev_ixF (xs : List PV) (i : Int) : pIxV (.fls xs) (.int i) = (match atI xs i with | some p => .ok p | none => .bad) := rfl
@[simp] theorem ev_ixT (xs : List PV) (i : Int) : pIxV (.tup xs) (.int i) = (match atI xs i with | some p => .ok p | none => .bad) := rfl
@[simp] theorem ev_slL (xs : List PV) (lo hi) : pSlV (.lst xs) lo hi = .ok (.ow (cutP xs lo hi)) := rfl
@[simp] theorem ev_slT (xs : List PV) (lo hi) : pSlV (.tup xs) lo hi = .ok (.sh (.tup (cutP xs lo hi))) := rfl
@[simp] theorem ev_truN : pTru .non = .ok false := rfl
@[simp] theorem ev_truB (b : Bool) : pTru (.bl b) = .ok b := rfl
@[simp] theorem ev_truI (i : Int) : pTru (.int i) = .ok (i != 0) := rfl
@[simp] theorem ev_truL (xs) : pTru (.lst xs) = .ok (!xs.isEmpty) := rfl
@[simp] theorem ev_truT (xs) : pTru (.tup xs) = .ok (!xs.isEmpty) := rfl
@[simp] theorem ev_idN (neg : Bool) (p : PV) : pIdK neg p .non = .ok (.bl (xor neg p.isNon)) := rfl
@[simp] theorem ev_idB (neg : Bool) (p : PV) (b : Bool) : pIdK neg p (.bl b) = .ok (.bl (xor neg (p.isBl b))) := rfl
@[simp] theorem ev_isi (ts : List String) (p : PV) : pisi ts p = (match tyName p with | some n => if ts.all tyKnown = true then .ok (.bl (ts.any fun t => isiT n t)) else .bad | none => .bad) := rfl
theorem tk_int : tyKnown "int" = true := by decide
theorem mOf_def (n l : Nat) (fb : Pu.Env → O) (ps : List PV) (h : ps.length = n) : mOf n l fb ps = (match fb (ps.map Slot.sh ++ List.replicate (l - n) Slot.un) with | .nx _ => .ok .non | .rt p _ => .ok p | .exc x _ => .exc x | .bk _ => .bad | .ct _ => .bad | .bad => .bad) := by
  unfold mOf; rw [if_pos h]; cases fb (ps.map Slot.sh ++ List.replicate (l - n) Slot.un) <;> rfl
end
end Pu
namespace Pu
open PySem PySem.Spec PyProof.Rows L2
@[simp] theorem str_inj (a b : String) : (Str.ofString a = Str.ofString b) ↔ a = b := by
  refine ⟨fun h => ?_, fun h => by rw [h]⟩
  rw [Str.ofString_eq_toList, Str.ofString_eq_toList] at h
  have h1 : a.toList.map Char.toNat = b.toList.map Char.toNat := by
    have := congrArg (fun s : Str => s.cps.toList) h
    simpa using this
  have inj : ∀ (l m : List Char), l.map Char.toNat = m.map Char.toNat → l = m := by
    intro l
    induction l with
    | nil => intro m h; cases m with
      | nil => rfl
      | cons _ _ => cases h
    | cons c l ih => intro m h; cases m with
      | nil => cases h
      | cons d m =>
        simp only [List.map_cons, List.cons.injEq] at h
        rw [ih m h.2, Char.ext (UInt32.toNat_inj.mp h.1)]
  have := inj _ _ h1
  exact String.toList_inj.mp this
@[simp] theorem str_beq (a b : String) : (Str.ofString a == Str.ofString b) = (a == b) := by
  rw [Bool.eq_iff_iff]; simp
@[simp] theorem frzs_cons (i : Nat) (is : List Nat) (ρ : Pu.Env) : frzs (i :: is) ρ = frzs is (frz1 i ρ) := rfl
@[simp] theorem ev_frz1 (i : Nat) (ρ : Pu.Env) : frz1 i ρ = (match ρ[i]? with | some (.ow xs) => ρ.set i (.sh (.lst xs)) | some (.od xs) => ρ.set i (.sh (.dic xs)) | _ => ρ) := rfl
@[simp] theorem ev_back (fr : List Nat) (t : Slot) (ρ : Pu.Env) : back fr t ρ = if t.atom = true then ρ else frzs fr ρ := rfl
@[simp] theorem ev_forN (g : PV → Pu.Env → R Pu.Env) (body : Pu.Env → O) (ρ : Pu.Env) : forL g body [] ρ = .nx ρ := rfl
theorem ev_forC (g : PV → Pu.Env → R Pu.Env) (body : Pu.Env → O) (p : PV) (ps : List PV) (ρ : Pu.Env) : forL g body (p :: ps) ρ = (match g p ρ with
    | .ok ρ1 => (match body ρ1 with
      | .nx ρ2 => forL g body ps ρ2
      | .ct ρ2 => forL g body ps ρ2
      | .bk ρ2 => .nx ρ2
      | .rt v ρ2 => .rt v ρ2
      | .exc x ρ2 => .exc x ρ2
      | .bad => .bad)
    | _ => .bad) := rfl
@[simp] theorem ev_compN (g : PV → Pu.Env → R Pu.Env) (t : Pu.Env → R Bool) (f : Pu.Env → R PV) (ρ : Pu.Env) : compL g t f ρ [] = .ok [] := rfl
@[simp] theorem ev_compC (g : PV → Pu.Env → R Pu.Env) (t : Pu.Env → R Bool) (f : Pu.Env → R PV) (ρ : Pu.Env) (p : PV) (ps : List PV) : compL g t f ρ (p :: ps) = ((nox (g p ρ)).bind fun ρ1 => (nox (t ρ1)).bind fun b => if b = true then (nox (f ρ1)).bind fun v => (compL g t f ρ ps).bind fun vs => .ok (v :: vs) else compL g t f ρ ps) := rfl
@[simp] theorem ev_wipeN (ρ : Pu.Env) : wipeE ρ [] = ρ := rfl
@[simp] theorem ev_wipeC (ρ : Pu.Env) (v : Nat) (vs : List Nat) : wipeE ρ (v :: vs) = (wipeE ρ vs).set v .un := rfl
end Pu
set_option Elab.async false
set_option linter.all false
set_option maxRecDepth 100000
set_option maxHeartbeats 4000000
namespace K12
open PySem PySem.Spec PyProof.Rows L2 Pu
noncomputable section
abbrev tbl_BadNumber : List (Str × Bool) := [("BadNumber", true)]
def topS (i : Nat) : Stmt := PySem.Challenge.pw_runsolved_k12_how_often_a_round_is_gone.main.body.getD i (.Pass ⟨0, 0, 0, 0⟩)
abbrev s_is_whole : Stmt := topS 6
abbrev N_is_whole : List Str := ["value"]
theorem sc_is_whole : FnScope N_is_whole ["value"] (defScope s_is_whole) := ⟨rfl, rfl, rfl, by decide +kernel, rfl, by decide +kernel, by decide +kernel⟩
theorem nd_is_whole : N_is_whole.Nodup := sc_is_whole.nd
def b_is_whole : Pu.Env → O :=
  (sRet [] (pAnd (pUn (pisi ["int"]) (pVar 0)) (pAnd (pNot (pUn (pisi ["bool"]) (pVar 0))) (pBin pge (pVar 0) (pC (.int 0))))))
def m_is_whole : List PV → R PV := mOf 1 1 b_is_whole
theorem d_is_whole {P : Program} {w : World} {K : PySem.W.Frag} {mg : Str → Option Value} {base : Heap} {f : Addr} {fd : FuncData} (F : Fun K "is_whole" "is_whole" s_is_whole f fd) (b : Binds K fd ["value"] []) (hm : mg "is_whole" = some (.ref f)) (fr_isinstance : mg "isinstance" = none) (fr_int : mg "int" = none) (fr_bool : mg "bool" = none) : Callee P w K mg base 1 "is_whole" m_is_whole := callee_of b_is_whole F sc_is_whole hm b fun cdv A outer s H E B hr h0 =>
    (b_one (s_ret [] (e_and (e_isi (e_var 0) fr_isinstance fr_int (by decide +kernel) (by decide +kernel)) (e_and (e_not (e_isi (e_var 0) fr_isinstance fr_bool (by decide +kernel) (by decide +kernel))) (e_one (e_cmp op_geP (e_var 0) e_int))))))
abbrev s_Machine_counters : Stmt := inClass (topS 14) 1
abbrev N_Machine_counters : List Str := ["self"]
theorem sc_Machine_counters : FnScope N_Machine_counters ["self"] (defScope s_Machine_counters) := ⟨rfl, rfl, rfl, by decide +kernel, rfl, by decide +kernel, by decide +kernel⟩
theorem nd_Machine_counters : N_Machine_counters.Nodup := sc_Machine_counters.nd
def b_Machine_counters : Pu.Env → O :=
  (sRet [] (pFldO 0 "Machine" "_counters"))
def m_Machine_counters : List PV → R PV := mOf 1 1 b_Machine_counters
theorem d_Machine_counters {P : Program} {w : World} {K : PySem.W.Frag} {mg : Str → Option Value} {base : Heap} {f : Addr} {fd : FuncData} {C_Machine : Addr} (F : Fun K "counters" "Machine.counters" s_Machine_counters f fd) (b : Binds K fd ["self"] []) (M : Meth K C_Machine "counters" f) (cl_Machine : ClsN K mg "Machine" C_Machine) (na_Machine_counters : NoAttr K C_Machine "_counters") : MCallee P w K mg base 1 "Machine" "counters" m_Machine_counters := mcallee_of b_Machine_counters F sc_Machine_counters cl_Machine M b fun cdv A outer s H E B hr h0 =>
    (b_one (s_ret [] (e_fldo 0 cl_Machine na_Machine_counters)))
abbrev s_Machine_lines : Stmt := inClass (topS 14) 2
abbrev N_Machine_lines : List Str := ["self"]
theorem sc_Machine_lines : FnScope N_Machine_lines ["self"] (defScope s_Machine_lines) := ⟨rfl, rfl, rfl, by decide +kernel, rfl, by decide +kernel, by decide +kernel⟩
theorem nd_Machine_lines : N_Machine_lines.Nodup := sc_Machine_lines.nd
def b_Machine_lines : Pu.Env → O :=
  (sRet [] (unF (pCalF plistF (pCons (pFldO 0 "Machine" "_lines") pNil))))
def m_Machine_lines : List PV → R PV := mOf 1 1 b_Machine_lines
theorem d_Machine_lines {P : Program} {w : World} {K : PySem.W.Frag} {mg : Str → Option Value} {base : Heap} {f : Addr} {fd : FuncData} {C_Machine : Addr} (F : Fun K "lines" "Machine.lines" s_Machine_lines f fd) (b : Binds K fd ["self"] []) (M : Meth K C_Machine "lines" f) (fr_list : mg "list" = none) (cl_Machine : ClsN K mg "Machine" C_Machine) (na_Machine_lines : NoAttr K C_Machine "_lines") : MCallee P w K mg base 1 "Machine" "lines" m_Machine_lines := mcallee_of b_Machine_lines F sc_Machine_lines cl_Machine M b fun cdv A outer s H E B hr h0 =>
    (b_one (s_ret [] (e_un (f_ty cb_listF fr_list (by decide +kernel) (a_cons (e_fldo 0 cl_Machine na_Machine_lines) a_nil)))))
abbrev s_Machine_line : Stmt := inClass (topS 14) 3
abbrev N_Machine_line : List Str := ["self", "index"]
theorem sc_Machine_line : FnScope N_Machine_line ["self", "index"] (defScope s_Machine_line) := ⟨rfl, rfl, rfl, by decide +kernel, rfl, by decide +kernel, by decide +kernel⟩
theorem nd_Machine_line : N_Machine_line.Nodup := sc_Machine_line.nd
def b_Machine_line : Pu.Env → O :=
  (sRet [] (pBin pIxV (pFldO 0 "Machine" "_lines") (pVar 1)))
def m_Machine_line : List PV → R PV := mOf 2 2 b_Machine_line
theorem d_Machine_line {P : Program} {w : World} {K : PySem.W.Frag} {mg : Str → Option Value} {base : Heap} {f : Addr} {fd : FuncData} {C_Machine : Addr} (F : Fun K "line" "Machine.line" s_Machine_line f fd) (b : Binds K fd ["self", "index"] []) (M : Meth K C_Machine "line" f) (cl_Machine : ClsN K mg "Machine" C_Machine) (na_Machine_lines : NoAttr K C_Machine "_lines") : MCallee P w K mg base 1 "Machine" "line" m_Machine_line := mcallee_of b_Machine_line F sc_Machine_line cl_Machine M b fun cdv A outer s H E B hr h0 =>
    (b_one (s_ret [] (e_ix (e_fldo 0 cl_Machine na_Machine_lines) (e_var 1))))
abbrev s_Machine_count : Stmt := inClass (topS 14) 4
abbrev N_Machine_count : List Str := ["self"]
theorem sc_Machine_count : FnScope N_Machine_count ["self"] (defScope s_Machine_count) := ⟨rfl, rfl, rfl, by decide +kernel, rfl, by decide +kernel, by decide +kernel⟩
theorem nd_Machine_count : N_Machine_count.Nodup := sc_Machine_count.nd
def b_Machine_count : Pu.Env → O :=
  (sRet [] (pCal plen (pCons (pFldO 0 "Machine" "_lines") pNil)))
def m_Machine_count : List PV → R PV := mOf 1 1 b_Machine_count
theorem d_Machine_count {P : Program} {w : World} {K : PySem.W.Frag} {mg : Str → Option Value} {base : Heap} {f : Addr} {fd : FuncData} {C_Machine : Addr} (F : Fun K "count" "Machine.count" s_Machine_count f fd) (b : Binds K fd ["self"] []) (M : Meth K C_Machine "count" f) (fr_len : mg "len" = none) (cl_Machine : ClsN K mg "Machine" C_Machine) (na_Machine_lines : NoAttr K C_Machine "_lines") : MCallee P w K mg base 1 "Machine" "count" m_Machine_count := mcallee_of b_Machine_count F sc_Machine_count cl_Machine M b fun cdv A outer s H E B hr h0 =>
    (b_one (s_ret [] (e_blt cb_len fr_len (by decide +kernel) (a_cons (e_fldo 0 cl_Machine na_Machine_lines) a_nil))))
abbrev s_Machine_last : Stmt := inClass (topS 14) 5
abbrev N_Machine_last : List Str := ["self"]
theorem sc_Machine_last : FnScope N_Machine_last ["self"] (defScope s_Machine_last) := ⟨rfl, rfl, rfl, by decide +kernel, rfl, by decide +kernel, by decide +kernel⟩
theorem nd_Machine_last : N_Machine_last.Nodup := sc_Machine_last.nd
def b_Machine_last : Pu.Env → O :=
  (sRet [] (pBin psub (pCal plen (pCons (pFldO 0 "Machine" "_lines") pNil)) (pC (.int 1))))
def m_Machine_last : List PV → R PV := mOf 1 1 b_Machine_last
theorem d_Machine_last {P : Program} {w : World} {K : PySem.W.Frag} {mg : Str → Option Value} {base : Heap} {f : Addr} {fd : FuncData} {C_Machine : Addr} (F : Fun K "last" "Machine.last" s_Machine_last f fd) (b : Binds K fd ["self"] []) (M : Meth K C_Machine "last" f) (fr_len : mg "len" = none) (cl_Machine : ClsN K mg "Machine" C_Machine) (na_Machine_lines : NoAttr K C_Machine "_lines") : MCallee P w K mg base 1 "Machine" "last" m_Machine_last := mcallee_of b_Machine_last F sc_Machine_last cl_Machine M b fun cdv A outer s H E B hr h0 =>
    (b_one (s_ret [] (e_bin op_subP (e_blt cb_len fr_len (by decide +kernel) (a_cons (e_fldo 0 cl_Machine na_Machine_lines) a_nil)) e_int)))
abbrev s_changed : Stmt := topS 17
abbrev N_changed : List Str := ["numbers", "counter", "by"]
theorem sc_changed : FnScope N_changed ["numbers", "counter", "by"] (defScope s_changed) := ⟨rfl, rfl, rfl, by decide +kernel, rfl, by decide +kernel, by decide +kernel⟩
theorem nd_changed : N_changed.Nodup := sc_changed.nd
def b_changed : Pu.Env → O :=
  (sRet [] (pBin padd (pBin padd (unF (pSli (pVar 0) pNoPart (pPart (pVar 1)))) (pTup (pCons (pBin padd (pBin pIxV (pVar 0) (pVar 1)) (pVar 2)) pNil))) (unF (pSli (pVar 0) (pPart (pBin padd (pVar 1) (pC (.int 1)))) pNoPart))))
def m_changed : List PV → R PV := mOf 3 3 b_changed
theorem d_changed {P : Program} {w : World} {K : PySem.W.Frag} {mg : Str → Option Value} {base : Heap} {f : Addr} {fd : FuncData} (F : Fun K "changed" "changed" s_changed f fd) (b : Binds K fd ["numbers", "counter", "by"] []) (hm : mg "changed" = some (.ref f)) : Callee P w K mg base 1 "changed" m_changed := callee_of b_changed F sc_changed hm b fun cdv A outer s H E B hr h0 =>
    (b_one (s_ret [] (e_bin op_addP (e_bin op_addP (e_un (f_sl (e_var 0) o_none (o_some (e_var 1)))) (e_tup (a_cons (e_bin op_addP (e_ix (e_var 0) (e_var 1)) (e_var 2)) a_nil))) (e_un (f_sl (e_var 0) (o_some (e_bin op_addP (e_var 1) e_int)) o_none)))))
abbrev s_grown : Stmt := topS 25
abbrev N_grown : List Str := ["states", "first", "last"]
theorem sc_grown : FnScope N_grown ["states"] (defScope s_grown) := ⟨rfl, rfl, rfl, by decide +kernel, rfl, by decide +kernel, by decide +kernel⟩
theorem nd_grown : N_grown.Nodup := sc_grown.nd
def b_grown : Pu.Env → O :=
  (sRet [] (pCal ptuple (pCons (unF (pComp [1, 2] (pIt zip2 (pCons (pBin pIxV (pBin pIxV (pVar 0) (pC (.int 0))) (pC (.int 1))) (pCons (pBin pIxV (pBin pIxV (pVar 0) (pUn pneg (pC (.int 1)))) (pC (.int 1))) pNil))) (Tg.g (.tup [1, 2])) tYesP (pBin psub (pVar 2) (pVar 1)))) pNil)))
def m_grown : List PV → R PV := mOf 1 3 b_grown
theorem d_grown {P : Program} {w : World} {K : PySem.W.Frag} {mg : Str → Option Value} {base : Heap} {f : Addr} {fd : FuncData} (F : Fun K "grown" "grown" s_grown f fd) (b : Binds K fd ["states"] []) (hm : mg "grown" = some (.ref f)) (fr_zip : mg "zip" = none) (fr_tuple : mg "tuple" = none) : Callee P w K mg base 1 "grown" m_grown := callee_of b_grown F sc_grown hm b fun cdv A outer s H E B hr h0 =>
    (b_one (s_ret [] (e_ty cb_tuple fr_tuple (by decide +kernel) (a_cons (e_un (f_lc (own := [("first", 1), ("last", 2)]) (.tup [1, 2]) rfl nd_grown (fun i hi => by exact .inl h0) (by decide) (i_zip fr_zip (a_cons (e_ix (e_ix (e_var 0) e_int) e_int) (a_cons (e_ix (e_ix (e_var 0) (e_neg e_int)) e_int) a_nil))) (blkOk_by (N := N_grown) (sc := defScope s_grown) (by decide +kernel)) (fun _ _ _ _ _ => pg_tup rfl (pgs_cons (pg_name (i := 1) nd_grown rfl (by first | exact Or.inl rfl | exact Or.inr rfl)) (pgs_cons (pg_name (i := 2) nd_grown rfl (by first | exact Or.inl rfl | exact Or.inr rfl)) (pgs_nil)))) (fun _ _ _ _ _ => q_nil) (fun _ _ _ _ _ => (e_bin op_subP (e_var 2) (e_var 1))))) a_nil))))
abbrev s_times_for : Stmt := topS 26
abbrev N_times_for : List Str := ["line", "numbers", "more", "number", "by"]
theorem sc_times_for : FnScope N_times_for ["line", "numbers", "more"] (defScope s_times_for) := ⟨rfl, rfl, rfl, by decide +kernel, rfl, by decide +kernel, by decide +kernel⟩
theorem nd_times_for : N_times_for.Nodup := sc_times_for.nd
def b_times_for : Pu.Env → O :=
  (sSeq (sIf [] (pB (pBin (pin true) (pBin pIxV (pVar 0) (pC (.int 0))) (pTup (pCons (pC (.str "zero")) (pCons (pC (.str "down")) pNil))))) (sRet [] (pC .non)) sNx)
    (sSeq (sPar 3 4 (inF (pBin pIxV (pVar 1) (pBin pIxV (pVar 0) (pC (.int 1))))) (inF (pBin pIxV (pVar 2) (pBin pIxV (pVar 0) (pC (.int 1))))))
    (sSeq (sIf [] (pAndT (pB (pBin peq (pBin pIxV (pVar 0) (pC (.int 0))) (pC (.str "zero")))) (pB (pBin peq (pVar 3) (pC (.int 0))))) (sRet [] (pIf (pB (pBin peq (pVar 4) (pC (.int 0)))) (pC .non) (pC (.int 1)))) sNx)
    (sRet [] (pIf (pB (pBin pge (pVar 4) (pC (.int 0)))) (pC .non) (pBin padd (pBin pfdiv (pBin psub (pVar 3) (pC (.int 1))) (pUn pneg (pVar 4))) (pC (.int 1))))))))
def m_times_for : List PV → R PV := mOf 3 5 b_times_for
theorem d_times_for {P : Program} {w : World} {K : PySem.W.Frag} {mg : Str → Option Value} {base : Heap} {f : Addr} {fd : FuncData} (F : Fun K "times_for" "times_for" s_times_for f fd) (b : Binds K fd ["line", "numbers", "more"] []) (hm : mg "times_for" = some (.ref f)) : Callee P w K mg base 1 "times_for" m_times_for := callee_of b_times_for F sc_times_for hm b fun cdv A outer s H E B hr h0 =>
    (b_cons (s_if [] (t_cmp (op_notInP (hu65 hr)) (e_ix (e_var 0) e_int) (e_tup (a_cons e_str (a_cons e_str a_nil)))) (b_one (s_ret [] e_non)) b_nil)
    (b_cons (s_par 3 4 (f_in (e_ix (e_var 1) (e_ix (e_var 0) e_int))) (f_in (e_ix (e_var 2) (e_ix (e_var 0) e_int))) (.inl h0) (.inl h0) rfl nd_times_for)
    (b_cons (s_if [] (t_w (w_and (t_cmp (op_eqP (hu64 hr)) (e_ix (e_var 0) e_int) e_str) (w_and1 (t_cmp (op_eqP (hu64 hr)) (e_var 3) e_int)))) (b_one (s_ret [] (e_if (t_cmp (op_eqP (hu64 hr)) (e_var 4) e_int) e_non e_int))) b_nil)
    (b_one (s_ret [] (e_if (t_cmp op_geP (e_var 4) e_int) e_non (e_bin op_addP (e_bin op_fdivP (e_bin op_subP (e_var 3) e_int) (e_neg (e_var 4))) e_int)))))))
abbrev s_leapt : Stmt := topS 28
abbrev N_leapt : List Str := ["state", "more", "times", "number", "by"]
theorem sc_leapt : FnScope N_leapt ["state", "more", "times"] (defScope s_leapt) := ⟨rfl, rfl, rfl, by decide +kernel, rfl, by decide +kernel, by decide +kernel⟩
theorem nd_leapt : N_leapt.Nodup := sc_leapt.nd
def b_leapt : Pu.Env → O :=
  (sRet [] (pTup (pCons (pBin pIxV (pVar 0) (pC (.int 0))) (pCons (pCal ptuple (pCons (unF (pComp [3, 4] (pIt zip2 (pCons (pBin pIxV (pVar 0) (pC (.int 1))) (pCons (pVar 1) pNil))) (Tg.g (.tup [3, 4])) tYesP (pBin padd (pVar 3) (pBin pmul (pVar 2) (pVar 4))))) pNil)) pNil))))
def m_leapt : List PV → R PV := mOf 3 5 b_leapt
theorem d_leapt {P : Program} {w : World} {K : PySem.W.Frag} {mg : Str → Option Value} {base : Heap} {f : Addr} {fd : FuncData} (F : Fun K "leapt" "leapt" s_leapt f fd) (b : Binds K fd ["state", "more", "times"] []) (hm : mg "leapt" = some (.ref f)) (fr_zip : mg "zip" = none) (fr_tuple : mg "tuple" = none) : Callee P w K mg base 1 "leapt" m_leapt := callee_of b_leapt F sc_leapt hm b fun cdv A outer s H E B hr h0 =>
    (b_one (s_ret [] (e_tup (a_cons (e_ix (e_var 0) e_int) (a_cons (e_ty cb_tuple fr_tuple (by decide +kernel) (a_cons (e_un (f_lc (own := [("number", 3), ("by", 4)]) (.tup [3, 4]) rfl nd_leapt (fun i hi => by exact .inl h0) (by decide) (i_zip fr_zip (a_cons (e_ix (e_var 0) e_int) (a_cons (e_var 1) a_nil))) (blkOk_by (N := N_leapt) (sc := defScope s_leapt) (by decide +kernel)) (fun _ _ _ _ _ => pg_tup rfl (pgs_cons (pg_name (i := 3) nd_leapt rfl (by first | exact Or.inl rfl | exact Or.inr rfl)) (pgs_cons (pg_name (i := 4) nd_leapt rfl (by first | exact Or.inl rfl | exact Or.inr rfl)) (pgs_nil)))) (fun _ _ _ _ _ => q_nil) (fun _ _ _ _ _ => (e_bin op_addP (e_var 3) (e_bin op_mulP (e_var 2) (e_var 4)))))) a_nil)) a_nil)))))
abbrev s_law_numbers : Stmt := topS 33
abbrev N_law_numbers : List Str := ["script", "at", "count", "cell", "numbers", "k", "mixed"]
theorem sc_law_numbers : FnScope N_law_numbers ["script", "at", "count"] (defScope s_law_numbers) := ⟨rfl, rfl, rfl, by decide +kernel, rfl, by decide +kernel, by decide +kernel⟩
theorem nd_law_numbers : N_law_numbers.Nodup := sc_law_numbers.nd
def b_law_numbers : Pu.Env → O :=
  (sSeq (sSet 3 [] (inF (pBin pmul (pC (.int 1000003)) (pBin padd (pVar 1) (pC (.int 1))))))
    (sSeq (sIf [] (pB (pBin plt (pVar 1) (pCal plen (pCons (pVar 0) pNil)))) (sSet 3 [] (inF (pCal pint (pCons (pBin pIxV (pVar 0) (pVar 1)) pNil)))) sNx)
    (sSeq (sIf [] (pB (pBin plt (pVar 3) (pC (.int 0)))) (sSet 3 [] (inF (pBin psub (pC (.int 1)) (pBin pmul (pC (.int 2)) (pVar 3))))) sNx)
    (sSeq (sSet 4 [] (pLstF pNil))
    (sSeq (sFor [] (pIt rng1 (pCons (pVar 2) pNil)) (gNam 5)
    (sIf [] (pB (pBin pge (pVar 3) (pBin ppow (pC (.int 10)) (pC (.int 18))))) (sSeq (sApp 4 [] (pBin pmod (pVar 3) (pC (.int 1009))))
    (sSet 3 [] (inF (pBin pfdiv (pVar 3) (pC (.int 1009)))))) (sSeq (sSet 6 [] (inF (pBin pmod (pBin padd (pBin padd (pBin pmul (pVar 3) (pC (.int 48271))) (pBin pmul (pBin padd (pVar 5) (pC (.int 1))) (pC (.int 69621)))) (pBin pmul (pVar 1) (pC (.int 4001)))) (pC (.int 2147483647)))))
    (sSeq (sSet 6 [] (inF (pBin pmod (pBin padd (pBin pmul (pVar 6) (pVar 6)) (pBin pmul (pC (.int 16807)) (pBin padd (pVar 5) (pC (.int 3))))) (pC (.int 2147483629)))))
    (sApp 4 [] (pBin pmod (pBin pfdiv (pVar 6) (pC (.int 7))) (pC (.int 1009))))))))
    (sRet [4] (pVar 4)))))))
def m_law_numbers : List PV → R PV := mOf 3 7 b_law_numbers
theorem d_law_numbers {P : Program} {w : World} {K : PySem.W.Frag} {mg : Str → Option Value} {base : Heap} {f : Addr} {fd : FuncData} (F : Fun K "_law_numbers" "_law_numbers" s_law_numbers f fd) (b : Binds K fd ["script", "at", "count"] []) (hm : mg "_law_numbers" = some (.ref f)) (fr_range : mg "range" = none) (fr_len : mg "len" = none) (fr_int : mg "int" = none) : Callee P w K mg base 1 "_law_numbers" m_law_numbers := callee_of b_law_numbers F sc_law_numbers hm b fun cdv A outer s H E B hr h0 =>
    (b_cons (s_set 3 [] (f_in (e_bin op_mulP e_int (e_bin op_addP (e_var 1) e_int))) (.inl h0) nd_law_numbers)
    (b_cons (s_if [] (t_cmp op_ltP (e_var 1) (e_blt cb_len fr_len (by decide +kernel) (a_cons (e_var 0) a_nil))) (b_one (s_set 3 [] (f_in (e_ty cb_int fr_int (by decide +kernel) (a_cons (e_ix (e_var 0) (e_var 1)) a_nil))) (.inl h0) nd_law_numbers)) b_nil)
    (b_cons (s_if [] (t_cmp op_ltP (e_var 3) e_int) (b_one (s_set 3 [] (f_in (e_bin op_subP e_int (e_bin op_mulP e_int (e_var 3)))) (.inl h0) nd_law_numbers)) b_nil)
    (b_cons (s_set 4 [] (f_lst a_nil) (.inl h0) nd_law_numbers)
    (b_cons (s_for [] cx_po rfl (i_range1 fr_range (a_cons (e_var 2) a_nil)) (g_name 5 (.inl h0) nd_law_numbers)
    (b_one (s_if [] (t_cmp op_geP (e_var 3) (e_bin op_powP e_int e_int)) (b_cons (s_app 4 [] (e_bin op_modP (e_var 3) e_int) (hb := pe_bm PySem.F.plainAttrs_list PySem.F.slot_list_append PySem.F.type_list_append mt_append (pv 4) (pa_cons (e_bin op_modP (e_var 3) e_int) pa_nil)))
    (b_one (s_set 3 [] (f_in (e_bin op_fdivP (e_var 3) e_int)) (.inl h0) nd_law_numbers))) (b_cons (s_set 6 [] (f_in (e_bin op_modP (e_bin op_addP (e_bin op_addP (e_bin op_mulP (e_var 3) e_int) (e_bin op_mulP (e_bin op_addP (e_var 5) e_int) e_int)) (e_bin op_mulP (e_var 1) e_int)) e_int)) (.inl h0) nd_law_numbers)
    (b_cons (s_set 6 [] (f_in (e_bin op_modP (e_bin op_addP (e_bin op_mulP (e_var 6) (e_var 6)) (e_bin op_mulP e_int (e_bin op_addP (e_var 5) e_int))) e_int)) (.inl h0) nd_law_numbers)
    (b_one (s_app 4 [] (e_bin op_modP (e_bin op_fdivP (e_var 6) e_int) e_int) (hb := pe_bm PySem.F.plainAttrs_list PySem.F.slot_list_append PySem.F.type_list_append mt_append (pv 4) (pa_cons (e_bin op_modP (e_bin op_fdivP (e_var 6) e_int) e_int) pa_nil)))))))))
    (b_one (s_ret [4] (e_var 4))))))))
abbrev s_law_step : Stmt := topS 35
abbrev N_law_step : List Str := ["lines", "state", "line", "told", "number"]
theorem sc_law_step : FnScope N_law_step ["lines", "state"] (defScope s_law_step) := ⟨rfl, rfl, rfl, by decide +kernel, rfl, by decide +kernel, by decide +kernel⟩
theorem nd_law_step : N_law_step.Nodup := sc_law_step.nd
def b_law_step : Pu.Env → O :=
  (sSeq (sPar 2 3 (inF (pBin pIxV (pVar 0) (pBin pIxV (pVar 1) (pC (.int 0))))) (inF (pBin pIxV (pVar 1) (pC (.int 1)))))
    (sSeq (sIf [] (pB (pBin peq (pBin pIxV (pVar 2) (pC (.int 0))) (pC (.str "stop")))) (sRet [] (pC (.str "stopped"))) sNx)
    (sSeq (sIf [] (pB (pBin peq (pBin pIxV (pVar 2) (pC (.int 0))) (pC (.str "go")))) (sRet [] (pTup (pCons (pBin pIxV (pVar 2) (pC (.int 1))) (pCons (pVar 3) pNil)))) sNx)
    (sSeq (sSet 4 [] (inF (pBin pIxV (pVar 3) (pBin pIxV (pVar 2) (pC (.int 1))))))
    (sSeq (sIf [] (pB (pBin peq (pBin pIxV (pVar 2) (pC (.int 0))) (pC (.str "zero")))) (sRet [] (pTup (pCons (pBin pIxV (pVar 2) (pBin padd (pC (.int 2)) (pCal pint (pCons (pBin pgt (pVar 4) (pC (.int 0))) pNil)))) (pCons (pVar 3) pNil)))) sNx)
    (sSeq (sIf [] (pAndT (pB (pBin peq (pBin pIxV (pVar 2) (pC (.int 0))) (pC (.str "down")))) (pB (pBin peq (pVar 4) (pC (.int 0))))) (sRet [] (pC (.str "stuck"))) sNx)
    (sRet [] (pTup (pCons (pBin pIxV (pVar 2) (pC (.int 2))) (pCons (pBin padd (pBin padd (unF (pSli (pVar 3) pNoPart (pPart (pBin pIxV (pVar 2) (pC (.int 1)))))) (pTup (pCons (pBin psub (pBin padd (pVar 4) (pC (.int 1))) (pBin pmul (pC (.int 2)) (pCal pint (pCons (pBin peq (pBin pIxV (pVar 2) (pC (.int 0))) (pC (.str "down"))) pNil)))) pNil))) (unF (pSli (pVar 3) (pPart (pBin padd (pBin pIxV (pVar 2) (pC (.int 1))) (pC (.int 1)))) pNoPart))) pNil))))))))))
def m_law_step : List PV → R PV := mOf 2 5 b_law_step
theorem d_law_step {P : Program} {w : World} {K : PySem.W.Frag} {mg : Str → Option Value} {base : Heap} {f : Addr} {fd : FuncData} (F : Fun K "_law_step" "_law_step" s_law_step f fd) (b : Binds K fd ["lines", "state"] []) (hm : mg "_law_step" = some (.ref f)) (fr_int : mg "int" = none) : Callee P w K mg base 1 "_law_step" m_law_step := callee_of b_law_step F sc_law_step hm b fun cdv A outer s H E B hr h0 =>
    (b_cons (s_par 2 3 (f_in (e_ix (e_var 0) (e_ix (e_var 1) e_int))) (f_in (e_ix (e_var 1) e_int)) (.inl h0) (.inl h0) rfl nd_law_step)
    (b_cons (s_if [] (t_cmp (op_eqP (hu64 hr)) (e_ix (e_var 2) e_int) e_str) (b_one (s_ret [] e_str)) b_nil)
    (b_cons (s_if [] (t_cmp (op_eqP (hu64 hr)) (e_ix (e_var 2) e_int) e_str) (b_one (s_ret [] (e_tup (a_cons (e_ix (e_var 2) e_int) (a_cons (e_var 3) a_nil))))) b_nil)
    (b_cons (s_set 4 [] (f_in (e_ix (e_var 3) (e_ix (e_var 2) e_int))) (.inl h0) nd_law_step)
    (b_cons (s_if [] (t_cmp (op_eqP (hu64 hr)) (e_ix (e_var 2) e_int) e_str) (b_one (s_ret [] (e_tup (a_cons (e_ix (e_var 2) (e_bin op_addP e_int (e_ty cb_int fr_int (by decide +kernel) (a_cons (e_cmp op_gtP (e_var 4) e_int) a_nil)))) (a_cons (e_var 3) a_nil))))) b_nil)
    (b_cons (s_if [] (t_w (w_and (t_cmp (op_eqP (hu64 hr)) (e_ix (e_var 2) e_int) e_str) (w_and1 (t_cmp (op_eqP (hu64 hr)) (e_var 4) e_int)))) (b_one (s_ret [] e_str)) b_nil)
    (b_one (s_ret [] (e_tup (a_cons (e_ix (e_var 2) e_int) (a_cons (e_bin op_addP (e_bin op_addP (e_un (f_sl (e_var 3) o_none (o_some (e_ix (e_var 2) e_int)))) (e_tup (a_cons (e_bin op_subP (e_bin op_addP (e_var 4) e_int) (e_bin op_mulP e_int (e_ty cb_int fr_int (by decide +kernel) (a_cons (e_cmp (op_eqP (hu64 hr)) (e_ix (e_var 2) e_int) e_str) a_nil)))) a_nil))) (e_un (f_sl (e_var 3) (o_some (e_bin op_addP (e_ix (e_var 2) e_int) e_int)) o_none))) a_nil)))))))))))
abbrev s_law_loop : Stmt := topS 37
abbrev N_law_loop : List Str := ["numbers", "wide", "endless", "rows", "k", "j", "there", "last"]
theorem sc_law_loop : FnScope N_law_loop ["numbers", "wide", "endless"] (defScope s_law_loop) := ⟨rfl, rfl, rfl, by decide +kernel, rfl, by decide +kernel, by decide +kernel⟩
theorem nd_law_loop : N_law_loop.Nodup := sc_law_loop.nd
def b_law_loop : Pu.Env → O :=
  (sSeq (sSet 3 [] (pLstF (pCons (pTup (pCons (pC (.str "zero")) (pCons (pC (.int 0)) (pCons (pBin padd (pVar 1) (pC (.int 2))) (pCons (pC (.int 1)) pNil))))) (pCons (pTup (pCons (pC (.str "down")) (pCons (pC (.int 0)) (pCons (pC (.int 2)) pNil)))) pNil))))
    (sSeq (sIf [] (pTr (pVar 2)) (sSet 3 [] (pLstF (pCons (pTup (pCons (pC (.str "zero")) (pCons (pC (.int 0)) (pCons (pC (.int 1)) (pCons (pC (.int 1)) pNil))))) (pCons (pTup (pCons (pC (.str "go")) (pCons (pC (.int 2)) pNil))) pNil)))) sNx)
    (sSeq (sFor [] (pIt rng1 (pCons (pVar 1) pNil)) (gNam 4)
    (sSeq (sPar 5 6 (inF (pBin padd (pC (.int 1)) (pBin pmod (pBin pIxV (pVar 0) (pBin pmod (pBin padd (pBin pmul (pC (.int 2)) (pVar 4)) (pC (.int 1))) (pC (.int 36)))) (pC (.int 2))))) (inF (pBin padd (pVar 4) (pC (.int 3)))))
    (sApp 3 [] (pBin pIxV (unF (pLstF (pCons (pTup (pCons (pC (.str "up")) (pCons (pVar 5) (pCons (pVar 6) pNil)))) (pCons (pTup (pCons (pC (.str "go")) (pCons (pVar 6) pNil))) (pCons (pTup (pCons (pC (.str "zero")) (pCons (pVar 5) (pCons (pVar 6) (pCons (pVar 6) pNil))))) (pCons (pTup (pCons (pC (.str "down")) (pCons (pVar 5) (pCons (pVar 6) pNil)))) (pCons (pTup (pCons (pC (.str "up")) (pCons (pVar 5) (pCons (pVar 6) pNil)))) (pCons (pTup (pCons (pC (.str "zero")) (pCons (pVar 5) (pCons (pVar 6) (pCons (pVar 6) pNil))))) pNil)))))))) (pBin pmod (pBin pIxV (pVar 0) (pBin pmod (pBin pmul (pC (.int 2)) (pVar 4)) (pC (.int 36)))) (pC (.int 6)))))))
    (sSeq (sSet 7 [] (inF (pIxO 3 (pUn pneg (pC (.int 1))))))
    (sSeq (sSetIx 3 [] (pUn pneg (pC (.int 1))) (pBin padd (pBin padd (pTup (pCons (pBin pIxV (pVar 7) (pC (.int 0))) pNil)) (unF (pSli (pVar 7) (pPart (pC (.int 1))) (pPart (pBin psub (pBin psub (pCal plen (pCons (pVar 7) pNil)) (pC (.int 1))) (pCal pint (pCons (pBin peq (pBin pIxV (pVar 7) (pC (.int 0))) (pC (.str "zero"))) pNil))))))) (pBin pmul (pTup (pCons (pC (.int 0)) pNil)) (pBin padd (pC (.int 1)) (pCal pint (pCons (pBin peq (pBin pIxV (pVar 7) (pC (.int 0))) (pC (.str "zero"))) pNil))))))
    (sRet [3] (unF (pBinF paddF (pVar 3) (unF (pLstF (pCons (pTup (pCons (pC (.str "stop")) pNil)) pNil)))))))))))
def m_law_loop : List PV → R PV := mOf 3 8 b_law_loop
theorem d_law_loop {P : Program} {w : World} {K : PySem.W.Frag} {mg : Str → Option Value} {base : Heap} {f : Addr} {fd : FuncData} (F : Fun K "_law_loop" "_law_loop" s_law_loop f fd) (b : Binds K fd ["numbers", "wide", "endless"] []) (hm : mg "_law_loop" = some (.ref f)) (fr_len : mg "len" = none) (fr_int : mg "int" = none) (fr_range : mg "range" = none) : Callee P w K mg base 1 "_law_loop" m_law_loop := callee_of b_law_loop F sc_law_loop hm b fun cdv A outer s H E B hr h0 =>
    (b_cons (s_set 3 [] (f_lst (a_cons (e_tup (a_cons e_str (a_cons e_int (a_cons (e_bin op_addP (e_var 1) e_int) (a_cons e_int a_nil))))) (a_cons (e_tup (a_cons e_str (a_cons e_int (a_cons e_int a_nil)))) a_nil))) (.inl h0) nd_law_loop)
    (b_cons (s_if [] (t_tru (e_var 2)) (b_one (s_set 3 [] (f_lst (a_cons (e_tup (a_cons e_str (a_cons e_int (a_cons e_int (a_cons e_int a_nil))))) (a_cons (e_tup (a_cons e_str (a_cons e_int a_nil))) a_nil))) (.inl h0) nd_law_loop)) b_nil)
    (b_cons (s_for [] cx_po rfl (i_range1 fr_range (a_cons (e_var 1) a_nil)) (g_name 4 (.inl h0) nd_law_loop)
    (b_cons (s_par 5 6 (f_in (e_bin op_addP e_int (e_bin op_modP (e_ix (e_var 0) (e_bin op_modP (e_bin op_addP (e_bin op_mulP e_int (e_var 4)) e_int) e_int)) e_int))) (f_in (e_bin op_addP (e_var 4) e_int)) (.inl h0) (.inl h0) rfl nd_law_loop)
    (b_one (s_app 3 [] (e_ix (e_un (f_lst (a_cons (e_tup (a_cons e_str (a_cons (e_var 5) (a_cons (e_var 6) a_nil)))) (a_cons (e_tup (a_cons e_str (a_cons (e_var 6) a_nil))) (a_cons (e_tup (a_cons e_str (a_cons (e_var 5) (a_cons (e_var 6) (a_cons (e_var 6) a_nil))))) (a_cons (e_tup (a_cons e_str (a_cons (e_var 5) (a_cons (e_var 6) a_nil)))) (a_cons (e_tup (a_cons e_str (a_cons (e_var 5) (a_cons (e_var 6) a_nil)))) (a_cons (e_tup (a_cons e_str (a_cons (e_var 5) (a_cons (e_var 6) (a_cons (e_var 6) a_nil))))) a_nil)))))))) (e_bin op_modP (e_ix (e_var 0) (e_bin op_modP (e_bin op_mulP e_int (e_var 4)) e_int)) e_int)) (hb := pe_bm PySem.F.plainAttrs_list PySem.F.slot_list_append PySem.F.type_list_append mt_append (pv 3) (pa_cons (e_ix (e_un (f_lst (a_cons (e_tup (a_cons e_str (a_cons (e_var 5) (a_cons (e_var 6) a_nil)))) (a_cons (e_tup (a_cons e_str (a_cons (e_var 6) a_nil))) (a_cons (e_tup (a_cons e_str (a_cons (e_var 5) (a_cons (e_var 6) (a_cons (e_var 6) a_nil))))) (a_cons (e_tup (a_cons e_str (a_cons (e_var 5) (a_cons (e_var 6) a_nil)))) (a_cons (e_tup (a_cons e_str (a_cons (e_var 5) (a_cons (e_var 6) a_nil)))) (a_cons (e_tup (a_cons e_str (a_cons (e_var 5) (a_cons (e_var 6) (a_cons (e_var 6) a_nil))))) a_nil)))))))) (e_bin op_modP (e_ix (e_var 0) (e_bin op_modP (e_bin op_mulP e_int (e_var 4)) e_int)) e_int)) pa_nil))))))
    (b_cons (s_set 7 [] (f_in (e_ixo 3 (e_neg e_int))) (.inl h0) nd_law_loop)
    (b_cons (s_setix 3 [] (e_bin op_addP (e_bin op_addP (e_tup (a_cons (e_ix (e_var 7) e_int) a_nil)) (e_un (f_sl (e_var 7) (o_some e_int) (o_some (e_bin op_subP (e_bin op_subP (e_blt cb_len fr_len (by decide +kernel) (a_cons (e_var 7) a_nil)) e_int) (e_ty cb_int fr_int (by decide +kernel) (a_cons (e_cmp (op_eqP (hu64 hr)) (e_ix (e_var 7) e_int) e_str) a_nil))))))) (e_bin op_mulP (e_tup (a_cons e_int a_nil)) (e_bin op_addP e_int (e_ty cb_int fr_int (by decide +kernel) (a_cons (e_cmp (op_eqP (hu64 hr)) (e_ix (e_var 7) e_int) e_str) a_nil))))) (e_neg e_int))
    (b_one (s_ret [3] (e_un (f_bin op_addF (e_var 3) (e_un (f_lst (a_cons (e_tup (a_cons e_str a_nil)) a_nil))))))))))))
abbrev s_law_due : Stmt := topS 38
abbrev N_law_due : List Str := ["lines", "states", "least", "line", "told", "one", "number", "by", "most"]
theorem sc_law_due : FnScope N_law_due ["lines", "states"] (defScope s_law_due) := ⟨rfl, rfl, rfl, by decide +kernel, rfl, by decide +kernel, by decide +kernel⟩
theorem nd_law_due : N_law_due.Nodup := sc_law_due.nd
def b_law_due : Pu.Env → O :=
  (sSeq (sIf [] (pOrT (pB (pBin plt (pCal plen (pCons (pVar 1) pNil)) (pC (.int 2)))) (pB (pBin pne (pBin pIxV (pBin pIxV (pVar 1) (pC (.int 0))) (pC (.int 0))) (pBin pIxV (pBin pIxV (pVar 1) (pUn pneg (pC (.int 1)))) (pC (.int 0)))))) (sRet [] (pC (.int 0))) sNx)
    (sSeq (sSet 2 [] (inF (pC .non)))
    (sSeq (sFor [] (pSeq (unF (pSli (pVar 1) pNoPart (pPart (pUn pneg (pC (.int 1))))))) (gTupP 2 (gsCons (gNam 3) (gsCons (gNam 4) gsNil)))
    (sSeq (sSet 5 [] (inF (pBin pIxV (pVar 0) (pVar 3))))
    (sSeq (sIf [] (pB (pBin (pin true) (pBin pIxV (pVar 5) (pC (.int 0))) (pTup (pCons (pC (.str "zero")) (pCons (pC (.str "down")) pNil))))) sCt sNx)
    (sSeq (sPar 6 7 (inF (pBin pIxV (pVar 4) (pBin pIxV (pVar 5) (pC (.int 1))))) (inF (pBin psub (pBin pIxV (pBin pIxV (pBin pIxV (pVar 1) (pUn pneg (pC (.int 1)))) (pC (.int 1))) (pBin pIxV (pVar 5) (pC (.int 1)))) (pBin pIxV (pBin pIxV (pBin pIxV (pVar 1) (pC (.int 0))) (pC (.int 1))) (pBin pIxV (pVar 5) (pC (.int 1)))))))
    (sSeq (sIf [] (pAndT (pB (pBin peq (pVar 6) (pC (.int 0)))) (pB (pBin pne (pVar 7) (pC (.int 0))))) (sSet 8 [] (inF (pC (.int 1)))) (sIf [] (pB (pBin plt (pVar 7) (pC (.int 0)))) (sSet 8 [] (inF (pBin pfdiv (pBin psub (pBin padd (pVar 6) (pBin psub (pC (.int 0)) (pVar 7))) (pC (.int 1))) (pBin psub (pC (.int 0)) (pVar 7))))) sCt))
    (sIf [] (pOrT (pB (pBin (pIdK false) (pVar 2) (pC .non))) (pB (pBin plt (pVar 8) (pVar 2)))) (sSet 2 [] (inF (pVar 8))) sNx))))))
    (sRet [] (pVar 2)))))
def m_law_due : List PV → R PV := mOf 2 9 b_law_due
theorem d_law_due {P : Program} {w : World} {K : PySem.W.Frag} {mg : Str → Option Value} {base : Heap} {f : Addr} {fd : FuncData} (F : Fun K "_law_due" "_law_due" s_law_due f fd) (b : Binds K fd ["lines", "states"] []) (hm : mg "_law_due" = some (.ref f)) (fr_len : mg "len" = none) : Callee P w K mg base 1 "_law_due" m_law_due := callee_of b_law_due F sc_law_due hm b fun cdv A outer s H E B hr h0 =>
    (b_cons (s_if [] (t_w (w_or (t_cmp op_ltP (e_blt cb_len fr_len (by decide +kernel) (a_cons (e_var 1) a_nil)) e_int) (w_or1 (t_cmp (op_neP (hu64 hr)) (e_ix (e_ix (e_var 1) e_int) e_int) (e_ix (e_ix (e_var 1) (e_neg e_int)) e_int))))) (b_one (s_ret [] e_int)) b_nil)
    (b_cons (s_set 2 [] (f_in e_non) (.inl h0) nd_law_due)
    (b_cons (s_for [] cx_po rfl (i_seq (e_un (f_sl (e_var 1) o_none (o_some (e_neg e_int))))) (g_tup rfl (gs_cons (g_name 3 (.inl h0) nd_law_due) (gs_cons (g_name 4 (.inl h0) nd_law_due) gs_nil)))
    (b_cons (s_set 5 [] (f_in (e_ix (e_var 0) (e_var 3))) (.inl h0) nd_law_due)
    (b_cons (s_if [] (t_cmp (op_notInP (hu65 hr)) (e_ix (e_var 5) e_int) (e_tup (a_cons e_str (a_cons e_str a_nil)))) (b_one s_continue) b_nil)
    (b_cons (s_par 6 7 (f_in (e_ix (e_var 4) (e_ix (e_var 5) e_int))) (f_in (e_bin op_subP (e_ix (e_ix (e_ix (e_var 1) (e_neg e_int)) e_int) (e_ix (e_var 5) e_int)) (e_ix (e_ix (e_ix (e_var 1) e_int) e_int) (e_ix (e_var 5) e_int)))) (.inl h0) (.inl h0) rfl nd_law_due)
    (b_cons (s_if [] (t_w (w_and (t_cmp (op_eqP (hu64 hr)) (e_var 6) e_int) (w_and1 (t_cmp (op_neP (hu64 hr)) (e_var 7) e_int)))) (b_one (s_set 8 [] (f_in e_int) (.inl h0) nd_law_due)) (b_one (s_if [] (t_cmp op_ltP (e_var 7) e_int) (b_one (s_set 8 [] (f_in (e_bin op_fdivP (e_bin op_subP (e_bin op_addP (e_var 6) (e_bin op_subP e_int (e_var 7))) e_int) (e_bin op_subP e_int (e_var 7)))) (.inl h0) nd_law_due)) (b_one s_continue))))
    (b_one (s_if [] (t_w (w_or (t_cmp op_isP (e_var 2) e_non) (w_or1 (t_cmp op_ltP (e_var 8) (e_var 2))))) (b_one (s_set 2 [] (f_in (e_var 8)) (.inl h0) nd_law_due)) b_nil)))))))
    (b_one (s_ret [] (e_var 2))))))
abbrev s_is_line : Stmt := topS 12
abbrev N_is_line : List Str := ["value", "counters", "lines", "word", "told", "one"]
theorem sc_is_line : FnScope N_is_line ["value", "counters", "lines"] (defScope s_is_line) := ⟨rfl, rfl, rfl, by decide +kernel, rfl, by decide +kernel, by decide +kernel⟩
theorem nd_is_line : N_is_line.Nodup := sc_is_line.nd
def b_is_line : Pu.Env → O :=
  (sSeq (sIf [] (pOrT (pNotT (pTr (pUn (pisi ["tuple"]) (pVar 0)))) (pOrT (pNotT (pTr (pVar 0))) (pNotT (pTr (pUn (pisi ["str"]) (pBin pIxV (pVar 0) (pC (.int 0)))))))) (sRet [] (pC (.bl false))) sNx)
    (sSeq (sIf [] (pNotT (pTr (pCal pall (pCons (unF (pComp [5] (pSeq (unF (pSli (pVar 0) (pPart (pC (.int 1))) pNoPart))) (Tg.g (.nam 5)) tYesP (pFn m_is_whole (pCons (pVar 5) pNil)))) pNil)))) (sRet [] (pC (.bl false))) sNx)
    (sSeq (sPar 3 4 (inF (pBin pIxV (pVar 0) (pC (.int 0)))) (inF (unF (pSli (pVar 0) (pPart (pC (.int 1))) pNoPart))))
    (sSeq (sIf [] (pB (pBin peq (pVar 3) (pC (.str "stop")))) (sRet [] (pBin peq (pCal plen (pCons (pVar 4) pNil)) (pC (.int 0)))) sNx)
    (sSeq (sIf [] (pB (pBin peq (pVar 3) (pC (.str "go")))) (sRet [] (pAnd (pBin peq (pCal plen (pCons (pVar 4) pNil)) (pC (.int 1))) (pBin plt (pBin pIxV (pVar 4) (pC (.int 0))) (pVar 2)))) sNx)
    (sSeq (sIf [] (pB (pBin (pin false) (pVar 3) (pTup (pCons (pC (.str "up")) (pCons (pC (.str "down")) pNil))))) (sRet [] (pAnd (pBin peq (pCal plen (pCons (pVar 4) pNil)) (pC (.int 2))) (pAnd (pBin plt (pBin pIxV (pVar 4) (pC (.int 0))) (pVar 1)) (pBin plt (pBin pIxV (pVar 4) (pC (.int 1))) (pVar 2))))) sNx)
    (sRet [] (pAnd (pBin peq (pVar 3) (pC (.str "zero"))) (pAnd (pBin peq (pCal plen (pCons (pVar 4) pNil)) (pC (.int 3))) (pAnd (pBin plt (pBin pIxV (pVar 4) (pC (.int 0))) (pVar 1)) (pBin plt (pCal pmax (pCons (unF (pSli (pVar 4) (pPart (pC (.int 1))) pNoPart)) pNil)) (pVar 2))))))))))))
def m_is_line : List PV → R PV := mOf 3 6 b_is_line
theorem d_is_line {P : Program} {w : World} {K : PySem.W.Frag} {mg : Str → Option Value} {base : Heap} {f : Addr} {fd : FuncData} (F : Fun K "is_line" "is_line" s_is_line f fd) (b : Binds K fd ["value", "counters", "lines"] []) (hm : mg "is_line" = some (.ref f)) (fr_len : mg "len" = none) (fr_max : mg "max" = none) (c_is_whole : Callee P w K mg base 1 "is_whole" m_is_whole) (fr_all : mg "all" = none) (fr_isinstance : mg "isinstance" = none) (fr_tuple : mg "tuple" = none) (fr_str : mg "str" = none) : Callee P w K mg base 2 "is_line" m_is_line := callee_of b_is_line F sc_is_line hm b fun cdv A outer s H E B hr h0 =>
    (b_cons (s_if [] (t_w (w_or (t_not (t_tru (e_isi (e_var 0) fr_isinstance fr_tuple (by decide +kernel) (by decide +kernel)))) (w_or (t_not (t_tru (e_var 0))) (w_or1 (t_not (t_tru (e_isi (e_ix (e_var 0) e_int) fr_isinstance fr_str (by decide +kernel) (by decide +kernel)))))))) (b_one (s_ret [] e_bl)) b_nil)
    (b_cons (s_if [] (t_not (t_tru (e_blt (cb_all rfl) fr_all (by decide +kernel) (a_cons (e_un (f_lc (own := [("one", 5)]) (.nam 5) rfl nd_is_line (fun i hi => by exact .inl h0) (by decide) (i_seq (e_un (f_sl (e_var 0) (o_some e_int) o_none))) (blkOk_by (N := N_is_line) (sc := defScope s_is_line) (by decide +kernel)) (fun _ _ _ _ _ => pg_name (i := 5) nd_is_line rfl (by first | exact Or.inl rfl | exact Or.inr rfl)) (fun _ _ _ _ _ => q_nil) (fun _ _ _ _ _ => (e_call c_is_whole (hr.mono (by omega)) px_no (a_cons (e_var 5) a_nil))))) a_nil)))) (b_one (s_ret [] e_bl)) b_nil)
    (b_cons (s_par 3 4 (f_in (e_ix (e_var 0) e_int)) (f_in (e_un (f_sl (e_var 0) (o_some e_int) o_none))) (.inl h0) (.inl h0) rfl nd_is_line)
    (b_cons (s_if [] (t_cmp (op_eqP (hu64 hr)) (e_var 3) e_str) (b_one (s_ret [] (e_cmp (op_eqP (hu64 hr)) (e_blt cb_len fr_len (by decide +kernel) (a_cons (e_var 4) a_nil)) e_int))) b_nil)
    (b_cons (s_if [] (t_cmp (op_eqP (hu64 hr)) (e_var 3) e_str) (b_one (s_ret [] (e_and (e_cmp (op_eqP (hu64 hr)) (e_blt cb_len fr_len (by decide +kernel) (a_cons (e_var 4) a_nil)) e_int) (e_one (e_cmp op_ltP (e_ix (e_var 4) e_int) (e_var 2)))))) b_nil)
    (b_cons (s_if [] (t_cmp (op_inP (hu65 hr)) (e_var 3) (e_tup (a_cons e_str (a_cons e_str a_nil)))) (b_one (s_ret [] (e_and (e_cmp (op_eqP (hu64 hr)) (e_blt cb_len fr_len (by decide +kernel) (a_cons (e_var 4) a_nil)) e_int) (e_and (e_cmp op_ltP (e_ix (e_var 4) e_int) (e_var 1)) (e_one (e_cmp op_ltP (e_ix (e_var 4) e_int) (e_var 2))))))) b_nil)
    (b_one (s_ret [] (e_and (e_cmp (op_eqP (hu64 hr)) (e_var 3) e_str) (e_and (e_cmp (op_eqP (hu64 hr)) (e_blt cb_len fr_len (by decide +kernel) (a_cons (e_var 4) a_nil)) e_int) (e_and (e_cmp op_ltP (e_ix (e_var 4) e_int) (e_var 1)) (e_one (e_cmp op_ltP (e_blt (cb_max rfl (hu64 hr)) fr_max (by decide +kernel) (a_cons (e_un (f_sl (e_var 4) (o_some e_int) o_none)) a_nil)) (e_var 2))))))))))))))
abbrev s_is_state : Stmt := topS 15
abbrev N_is_state : List Str := ["machine", "value", "told", "one"]
theorem sc_is_state : FnScope N_is_state ["machine", "value"] (defScope s_is_state) := ⟨rfl, rfl, rfl, by decide +kernel, rfl, by decide +kernel, by decide +kernel⟩
theorem nd_is_state : N_is_state.Nodup := sc_is_state.nd
def b_is_state : Pu.Env → O :=
  (sSeq (sIf [] (pOrT (pNotT (pTr (pUn (pisi ["tuple"]) (pVar 1)))) (pOrT (pB (pBin pne (pCal plen (pCons (pVar 1) pNil)) (pC (.int 2)))) (pOrT (pNotT (pTr (pFn m_is_whole (pCons (pBin pIxV (pVar 1) (pC (.int 0))) pNil)))) (pB (pBin pge (pBin pIxV (pVar 1) (pC (.int 0))) (pMeth "Machine" "count" m_Machine_count (pVar 0) pNil)))))) (sRet [] (pC (.bl false))) sNx)
    (sSeq (sSet 2 [] (inF (pBin pIxV (pVar 1) (pC (.int 1)))))
    (sRet [] (pAnd (pUn (pisi ["tuple"]) (pVar 2)) (pAnd (pBin peq (pCal plen (pCons (pVar 2) pNil)) (pMeth "Machine" "counters" m_Machine_counters (pVar 0) pNil)) (pCal pall (pCons (unF (pComp [3] (pSeq (pVar 2)) (Tg.g (.nam 3)) tYesP (pFn m_is_whole (pCons (pVar 3) pNil)))) pNil)))))))
def m_is_state : List PV → R PV := mOf 2 4 b_is_state
theorem d_is_state {P : Program} {w : World} {K : PySem.W.Frag} {mg : Str → Option Value} {base : Heap} {f : Addr} {fd : FuncData} (F : Fun K "is_state" "is_state" s_is_state f fd) (b : Binds K fd ["machine", "value"] []) (hm : mg "is_state" = some (.ref f)) (fr_isinstance : mg "isinstance" = none) (fr_tuple : mg "tuple" = none) (fr_len : mg "len" = none) (c_Machine_counters : MCallee P w K mg base 1 "Machine" "counters" m_Machine_counters) (c_is_whole : Callee P w K mg base 1 "is_whole" m_is_whole) (fr_all : mg "all" = none) (c_Machine_count : MCallee P w K mg base 1 "Machine" "count" m_Machine_count) : Callee P w K mg base 2 "is_state" m_is_state := callee_of b_is_state F sc_is_state hm b fun cdv A outer s H E B hr h0 =>
    (b_cons (s_if [] (t_w (w_or (t_not (t_tru (e_isi (e_var 1) fr_isinstance fr_tuple (by decide +kernel) (by decide +kernel)))) (w_or (t_cmp (op_neP (hu64 hr)) (e_blt cb_len fr_len (by decide +kernel) (a_cons (e_var 1) a_nil)) e_int) (w_or (t_not (t_tru (e_call c_is_whole (hr.mono (by omega)) cx_px (a_cons (e_ix (e_var 1) e_int) a_nil)))) (w_or1 (t_cmp op_geP (e_ix (e_var 1) e_int) (e_meth0 c_Machine_count (hr.mono (by omega)) cx_px (e_var 0)))))))) (b_one (s_ret [] e_bl)) b_nil)
    (b_cons (s_set 2 [] (f_in (e_ix (e_var 1) e_int)) (.inl h0) nd_is_state)
    (b_one (s_ret [] (e_and (e_isi (e_var 2) fr_isinstance fr_tuple (by decide +kernel) (by decide +kernel)) (e_and (e_cmp (op_eqP (hu64 hr)) (e_blt cb_len fr_len (by decide +kernel) (a_cons (e_var 2) a_nil)) (e_meth0 c_Machine_counters (hr.mono (by omega)) cx_px (e_var 0))) (e_one (e_blt (cb_all rfl) fr_all (by decide +kernel) (a_cons (e_un (f_lc (own := [("one", 3)]) (.nam 3) rfl nd_is_state (fun i hi => by exact .inl h0) (by decide) (i_seq (e_var 2)) (blkOk_by (N := N_is_state) (sc := defScope s_is_state) (by decide +kernel)) (fun _ _ _ _ _ => pg_name (i := 3) nd_is_state rfl (by first | exact Or.inl rfl | exact Or.inr rfl)) (fun _ _ _ _ _ => q_nil) (fun _ _ _ _ _ => (e_call c_is_whole (hr.mono (by omega)) px_no (a_cons (e_var 3) a_nil))))) a_nil)))))))))
abbrev s_most_times : Stmt := topS 27
abbrev N_most_times : List Str := ["machine", "states", "more", "told", "known", "line", "numbers", "one"]
theorem sc_most_times : FnScope N_most_times ["machine", "states"] (defScope s_most_times) := ⟨rfl, rfl, rfl, by decide +kernel, rfl, by decide +kernel, by decide +kernel⟩
theorem nd_most_times : N_most_times.Nodup := sc_most_times.nd
def b_most_times : Pu.Env → O :=
  (sSeq (sIf [] (pOrT (pB (pBin (pIdK false) (pVar 1) (pC .non))) (pOrT (pB (pBin plt (pCal plen (pCons (pVar 1) pNil)) (pC (.int 2)))) (pB (pBin pne (pBin pIxV (pBin pIxV (pVar 1) (pC (.int 0))) (pC (.int 0))) (pBin pIxV (pBin pIxV (pVar 1) (pUn pneg (pC (.int 1)))) (pC (.int 0))))))) (sRet [] (pC (.int 0))) sNx)
    (sSeq (sSet 2 [] (inF (pFn m_grown (pCons (pVar 1) pNil))))
    (sSeq (sSet 3 [] (inF (unF (pComp [5, 6] (pSeq (unF (pSli (pVar 1) pNoPart (pPart (pUn pneg (pC (.int 1))))))) (Tg.g (.tup [5, 6])) tYesP (pFn m_times_for (pCons (pMeth "Machine" "line" m_Machine_line (pVar 0) (pCons (pVar 5) pNil)) (pCons (pVar 6) (pCons (pVar 2) pNil))))))))
    (sSeq (sSet 4 [] (inF (unF (pComp [7] (pSeq (pVar 3)) (Tg.g (.nam 7)) (pB (pBin (pIdK true) (pVar 7) (pC .non))) (pVar 7)))))
    (sRet [] (pIf (pTr (pVar 4)) (pCal pmin (pCons (pVar 4) pNil)) (pC .non)))))))
def m_most_times : List PV → R PV := mOf 2 8 b_most_times
theorem d_most_times {P : Program} {w : World} {K : PySem.W.Frag} {mg : Str → Option Value} {base : Heap} {f : Addr} {fd : FuncData} (F : Fun K "most_times" "most_times" s_most_times f fd) (b : Binds K fd ["machine", "states"] []) (hm : mg "most_times" = some (.ref f)) (fr_min : mg "min" = none) (c_Machine_line : MCallee P w K mg base 1 "Machine" "line" m_Machine_line) (c_times_for : Callee P w K mg base 1 "times_for" m_times_for) (c_grown : Callee P w K mg base 1 "grown" m_grown) (fr_len : mg "len" = none) : Callee P w K mg base 2 "most_times" m_most_times := callee_of b_most_times F sc_most_times hm b fun cdv A outer s H E B hr h0 =>
    (b_cons (s_if [] (t_w (w_or (t_cmp op_isP (e_var 1) e_non) (w_or (t_cmp op_ltP (e_blt cb_len fr_len (by decide +kernel) (a_cons (e_var 1) a_nil)) e_int) (w_or1 (t_cmp (op_neP (hu64 hr)) (e_ix (e_ix (e_var 1) e_int) e_int) (e_ix (e_ix (e_var 1) (e_neg e_int)) e_int)))))) (b_one (s_ret [] e_int)) b_nil)
    (b_cons (s_set 2 [] (f_in (e_call c_grown (hr.mono (by omega)) cx_px (a_cons (e_var 1) a_nil))) (.inl h0) nd_most_times)
    (b_cons (s_setlcG 3 [] (own := [("line", 5), ("numbers", 6)]) (.tup [5, 6]) rfl nd_most_times (fun i hi => by exact .inl h0) (by decide) (i_seq (e_un (f_sl (e_var 1) o_none (o_some (e_neg e_int))))) (blkOk_by (N := N_most_times) (sc := defScope s_most_times) (by decide +kernel)) (fun _ _ _ _ _ => pg_tup rfl (pgs_cons (pg_name (i := 5) nd_most_times rfl (by first | exact Or.inl rfl | exact Or.inr rfl)) (pgs_cons (pg_name (i := 6) nd_most_times rfl (by first | exact Or.inl rfl | exact Or.inr rfl)) (pgs_nil)))) (fun _ _ _ _ _ => q_nil) (fun _ _ _ _ _ => (e_call c_times_for (hr.mono (by omega)) px_no (a_cons (e_meth c_Machine_line (hr.mono (by omega)) px_no (e_var 0) (a_cons (e_var 5) a_nil)) (a_cons (e_var 6) (a_cons (e_var 2) a_nil))))) (.inl h0) go_un)
    (b_cons (s_setlcG 4 [] (own := [("one", 7)]) (.nam 7) rfl nd_most_times (fun i hi => by exact .inl h0) (by decide) (i_seq (e_var 3)) (blkOk_by (N := N_most_times) (sc := defScope s_most_times) (by decide +kernel)) (fun _ _ _ _ _ => pg_name (i := 7) nd_most_times rfl (by first | exact Or.inl rfl | exact Or.inr rfl)) (fun _ _ _ _ _ => q_one (t_cmp op_isnotP (e_var 7) e_non)) (fun _ _ _ _ _ => (e_var 7)) (.inl h0) go_un)
    (b_one (s_ret [] (e_if (t_tru (e_var 4)) (e_blt (cb_min rfl (hu64 hr)) fr_min (by decide +kernel) (a_cons (e_var 4) a_nil)) e_non)))))))
abbrev s_is_piece : Stmt := topS 29
abbrev N_is_piece : List Str := ["value", "one"]
theorem sc_is_piece : FnScope N_is_piece ["value"] (defScope s_is_piece) := ⟨rfl, rfl, rfl, by decide +kernel, rfl, by decide +kernel, by decide +kernel⟩
theorem nd_is_piece : N_is_piece.Nodup := sc_is_piece.nd
def b_is_piece : Pu.Env → O :=
  (sSeq (sIf [] (pOrT (pNotT (pTr (pUn (pisi ["tuple"]) (pVar 0)))) (pOrT (pB (pBin (pin true) (pCal plen (pCons (pVar 0) pNil)) (pTup (pCons (pC (.int 2)) (pCons (pC (.int 3)) pNil))))) (pNotT (pTr (pCal pall (pCons (unF (pComp [1] (pSeq (unF (pSli (pVar 0) (pPart (pC (.int 1))) pNoPart))) (Tg.g (.nam 1)) tYesP (pFn m_is_whole (pCons (pVar 1) pNil)))) pNil)))))) (sRet [] (pC (.bl false))) sNx)
    (sSeq (sIf [] (pB (pBin plt (pCal pmin (pCons (unF (pSli (pVar 0) (pPart (pC (.int 1))) pNoPart)) pNil)) (pC (.int 1)))) (sRet [] (pC (.bl false))) sNx)
    (sSeq (sIf [] (pB (pBin peq (pCal plen (pCons (pVar 0) pNil)) (pC (.int 2)))) (sRet [] (pAnd (pBin peq (pBin pIxV (pVar 0) (pC (.int 0))) (pC (.str "step"))) (pBin ple (pBin pIxV (pVar 0) (pC (.int 1))) (pC (.int 5000))))) sNx)
    (sRet [] (pAnd (pBin peq (pBin pIxV (pVar 0) (pC (.int 0))) (pC (.str "leap"))) (pBin ple (pBin pIxV (pVar 0) (pC (.int 1))) (pC (.int 400))))))))
def m_is_piece : List PV → R PV := mOf 1 2 b_is_piece
theorem d_is_piece {P : Program} {w : World} {K : PySem.W.Frag} {mg : Str → Option Value} {base : Heap} {f : Addr} {fd : FuncData} (F : Fun K "is_piece" "is_piece" s_is_piece f fd) (b : Binds K fd ["value"] []) (hm : mg "is_piece" = some (.ref f)) (t_LEAP : TopV K mg "LEAP" (.str "leap")) (t_MOST_ROUND : TopV K mg "MOST_ROUND" (.int 400)) (fr_len : mg "len" = none) (t_STEP : TopV K mg "STEP" (.str "step")) (t_MOST_PIECES : TopV K mg "MOST_PIECES" (.int 5000)) (fr_min : mg "min" = none) (fr_isinstance : mg "isinstance" = none) (fr_tuple : mg "tuple" = none) (c_is_whole : Callee P w K mg base 1 "is_whole" m_is_whole) (fr_all : mg "all" = none) : Callee P w K mg base 2 "is_piece" m_is_piece := callee_of b_is_piece F sc_is_piece hm b fun cdv A outer s H E B hr h0 =>
    (b_cons (s_if [] (t_w (w_or (t_not (t_tru (e_isi (e_var 0) fr_isinstance fr_tuple (by decide +kernel) (by decide +kernel)))) (w_or (t_cmp (op_notInP (hu65 hr)) (e_blt cb_len fr_len (by decide +kernel) (a_cons (e_var 0) a_nil)) (e_tup (a_cons e_int (a_cons e_int a_nil)))) (w_or1 (t_not (t_tru (e_blt (cb_all rfl) fr_all (by decide +kernel) (a_cons (e_un (f_lc (own := [("one", 1)]) (.nam 1) rfl nd_is_piece (fun i hi => by exact .inl h0) (by decide) (i_seq (e_un (f_sl (e_var 0) (o_some e_int) o_none))) (blkOk_by (N := N_is_piece) (sc := defScope s_is_piece) (by decide +kernel)) (fun _ _ _ _ _ => pg_name (i := 1) nd_is_piece rfl (by first | exact Or.inl rfl | exact Or.inr rfl)) (fun _ _ _ _ _ => q_nil) (fun _ _ _ _ _ => (e_call c_is_whole (hr.mono (by omega)) px_no (a_cons (e_var 1) a_nil))))) a_nil)))))))) (b_one (s_ret [] e_bl)) b_nil)
    (b_cons (s_if [] (t_cmp op_ltP (e_blt (cb_min rfl (hu64 hr)) fr_min (by decide +kernel) (a_cons (e_un (f_sl (e_var 0) (o_some e_int) o_none)) a_nil)) e_int) (b_one (s_ret [] e_bl)) b_nil)
    (b_cons (s_if [] (t_cmp (op_eqP (hu64 hr)) (e_blt cb_len fr_len (by decide +kernel) (a_cons (e_var 0) a_nil)) e_int) (b_one (s_ret [] (e_and (e_cmp (op_eqP (hu64 hr)) (e_ix (e_var 0) e_int) (e_glob t_STEP)) (e_one (e_cmp op_leP (e_ix (e_var 0) e_int) (e_glob t_MOST_PIECES)))))) b_nil)
    (b_one (s_ret [] (e_and (e_cmp (op_eqP (hu64 hr)) (e_ix (e_var 0) e_int) (e_glob t_LEAP)) (e_one (e_cmp op_leP (e_ix (e_var 0) e_int) (e_glob t_MOST_ROUND)))))))))
abbrev s_law_run : Stmt := topS 36
abbrev N_law_run : List Str := ["lines", "state", "limit", "states", "k", "behind"]
theorem sc_law_run : FnScope N_law_run ["lines", "state", "limit"] (defScope s_law_run) := ⟨rfl, rfl, rfl, by decide +kernel, rfl, by decide +kernel, by decide +kernel⟩
theorem nd_law_run : N_law_run.Nodup := sc_law_run.nd
def b_law_run : Pu.Env → O :=
  (sSeq (sSet 3 [] (pLstF (pCons (pVar 1) pNil)))
    (sSeq (sFor [] (pIt rng1 (pCons (pVar 2) pNil)) (gNam 4)
    (sSeq (sSet 5 [] (inF (pFn m_law_step (pCons (pVar 0) (pCons (pIxO 3 (pUn pneg (pC (.int 1)))) pNil)))))
    (sSeq (sIf [] (pTr (pUn (pisi ["str"]) (pVar 5))) (sRet [3] (pTup (pCons (pVar 5) (pCons (pVar 3) pNil)))) sNx)
    (sApp 3 [] (pVar 5)))))
    (sSeq (sSet 5 [] (inF (pFn m_law_step (pCons (pVar 0) (pCons (pIxO 3 (pUn pneg (pC (.int 1)))) pNil)))))
    (sSeq (sIf [] (pTr (pUn (pisi ["str"]) (pVar 5))) (sRet [3] (pTup (pCons (pVar 5) (pCons (pVar 3) pNil)))) sNx)
    (sRet [3] (pTup (pCons (pC (.str "open")) (pCons (pVar 3) pNil))))))))
def m_law_run : List PV → R PV := mOf 3 6 b_law_run
theorem d_law_run {P : Program} {w : World} {K : PySem.W.Frag} {mg : Str → Option Value} {base : Heap} {f : Addr} {fd : FuncData} (F : Fun K "_law_run" "_law_run" s_law_run f fd) (b : Binds K fd ["lines", "state", "limit"] []) (hm : mg "_law_run" = some (.ref f)) (fr_isinstance : mg "isinstance" = none) (fr_str : mg "str" = none) (c_law_step : Callee P w K mg base 1 "_law_step" m_law_step) (fr_range : mg "range" = none) : Callee P w K mg base 2 "_law_run" m_law_run := callee_of b_law_run F sc_law_run hm b fun cdv A outer s H E B hr h0 =>
    (b_cons (s_set 3 [] (f_lst (a_cons (e_var 1) a_nil)) (.inl h0) nd_law_run)
    (b_cons (s_for [] cx_po rfl (i_range1 fr_range (a_cons (e_var 2) a_nil)) (g_name 4 (.inl h0) nd_law_run)
    (b_cons (s_set 5 [] (f_in (e_call c_law_step (hr.mono (by omega)) cx_px (a_cons (e_var 0) (a_cons (e_ixo 3 (e_neg e_int)) a_nil)))) (.inl h0) nd_law_run)
    (b_cons (s_if [] (t_tru (e_isi (e_var 5) fr_isinstance fr_str (by decide +kernel) (by decide +kernel))) (b_one (s_ret [3] (e_tup (a_cons (e_var 5) (a_cons (e_var 3) a_nil))))) b_nil)
    (b_one (s_app 3 [] (e_var 5) (hb := pe_bm PySem.F.plainAttrs_list PySem.F.slot_list_append PySem.F.type_list_append mt_append (pv 3) (pa_cons (e_var 5) pa_nil)))))))
    (b_cons (s_set 5 [] (f_in (e_call c_law_step (hr.mono (by omega)) cx_px (a_cons (e_var 0) (a_cons (e_ixo 3 (e_neg e_int)) a_nil)))) (.inl h0) nd_law_run)
    (b_cons (s_if [] (t_tru (e_isi (e_var 5) fr_isinstance fr_str (by decide +kernel) (by decide +kernel))) (b_one (s_ret [3] (e_tup (a_cons (e_var 5) (a_cons (e_var 3) a_nil))))) b_nil)
    (b_one (s_ret [3] (e_tup (a_cons e_str (a_cons (e_var 3) a_nil)))))))))
abbrev s_wrong_line : Stmt := topS 13
abbrev N_wrong_line : List Str := ["counters", "lines", "index", "line"]
theorem sc_wrong_line : FnScope N_wrong_line ["counters", "lines"] (defScope s_wrong_line) := ⟨rfl, rfl, rfl, by decide +kernel, rfl, by decide +kernel, by decide +kernel⟩
theorem nd_wrong_line : N_wrong_line.Nodup := sc_wrong_line.nd
def b_wrong_line : Pu.Env → O :=
  (sSeq (sFor [] (pIt enum1 (pCons (pVar 1) pNil)) (gTupP 2 (gsCons (gNam 2) (gsCons (gNam 3) gsNil)))
    (sIf [] (pOrT (pNotT (pTr (pFn m_is_line (pCons (pVar 3) (pCons (pVar 0) (pCons (pCal plen (pCons (pVar 1) pNil)) pNil)))))) (pB (pBin pne (pBin peq (pBin pIxV (pVar 3) (pC (.int 0))) (pC (.str "stop"))) (pBin peq (pVar 2) (pBin psub (pCal plen (pCons (pVar 1) pNil)) (pC (.int 1))))))) (sRet [] (pVar 2)) sNx))
    (sRet [] (pC .non)))
def m_wrong_line : List PV → R PV := mOf 2 4 b_wrong_line
theorem d_wrong_line {P : Program} {w : World} {K : PySem.W.Frag} {mg : Str → Option Value} {base : Heap} {f : Addr} {fd : FuncData} (F : Fun K "wrong_line" "wrong_line" s_wrong_line f fd) (b : Binds K fd ["counters", "lines"] []) (hm : mg "wrong_line" = some (.ref f)) (fr_enumerate : mg "enumerate" = none) (fr_len : mg "len" = none) (c_is_line : Callee P w K mg base 2 "is_line" m_is_line) : Callee P w K mg base 3 "wrong_line" m_wrong_line := callee_of b_wrong_line F sc_wrong_line hm b fun cdv A outer s H E B hr h0 =>
    (b_cons (s_for [] cx_po rfl (i_enum fr_enumerate (a_cons (e_var 1) a_nil)) (g_tup rfl (gs_cons (g_name 2 (.inl h0) nd_wrong_line) (gs_cons (g_name 3 (.inl h0) nd_wrong_line) gs_nil)))
    (b_one (s_if [] (t_w (w_or (t_not (t_tru (e_call c_is_line (hr.mono (by omega)) cx_px (a_cons (e_var 3) (a_cons (e_var 0) (a_cons (e_blt cb_len fr_len (by decide +kernel) (a_cons (e_var 1) a_nil)) a_nil)))))) (w_or1 (t_cmp (op_neP (hu64 hr)) (e_cmp (op_eqP (hu64 hr)) (e_ix (e_var 3) e_int) e_str) (e_cmp (op_eqP (hu64 hr)) (e_var 2) (e_bin op_subP (e_blt cb_len fr_len (by decide +kernel) (a_cons (e_var 1) a_nil)) e_int)))))) (b_one (s_ret [] (e_var 2))) b_nil)))
    (b_one (s_ret [] e_non)))
abbrev s_check_state : Stmt := topS 16
abbrev N_check_state : List Str := ["machine", "value"]
theorem sc_check_state : FnScope N_check_state ["machine", "value"] (defScope s_check_state) := ⟨rfl, rfl, rfl, by decide +kernel, rfl, by decide +kernel, by decide +kernel⟩
theorem nd_check_state : N_check_state.Nodup := sc_check_state.nd
def b_check_state : Pu.Env → O :=
  (sIf [] (pNotT (pTr (pFn m_is_state (pCons (pVar 0) (pCons (pVar 1) pNil))))) sBad sNx)
def m_check_state : List PV → R PV := mOf 2 2 b_check_state
theorem d_check_state {P : Program} {w : World} {K : PySem.W.Frag} {mg : Str → Option Value} {base : Heap} {f : Addr} {fd : FuncData} (F : Fun K "check_state" "check_state" s_check_state f fd) (b : Binds K fd ["machine", "value"] []) (hm : mg "check_state" = some (.ref f)) (c_is_state : Callee P w K mg base 2 "is_state" m_is_state) : Callee P w K mg base 3 "check_state" m_check_state := callee_of b_check_state F sc_check_state hm b fun cdv A outer s H E B hr h0 =>
    (b_one (s_if [] (t_not (t_tru (e_call c_is_state (hr.mono (by omega)) cx_px (a_cons (e_var 0) (a_cons (e_var 1) a_nil))))) (b_one s_never) b_nil))
abbrev s_Machine_init : Stmt := inClass (topS 14) 0
abbrev N_Machine_init : List Str := ["self", "counters", "lines", "wrong"]
theorem sc_Machine_init : FnScope N_Machine_init ["self", "counters", "lines"] (defScope s_Machine_init) := ⟨rfl, rfl, rfl, by decide +kernel, rfl, by decide +kernel, by decide +kernel⟩
theorem nd_Machine_init : N_Machine_init.Nodup := sc_Machine_init.nd
def b_Machine_init : Pu.Env → O :=
  (sSeq (sIf [] (pOrT (pNotT (pTr (pFn m_is_whole (pCons (pVar 1) pNil)))) (pB (pBin pgt (pVar 1) (pC (.int 40))))) sBad sNx)
    (sSeq (sIf [] (pOrT (pNotT (pTr (pUn (pisi ["list"]) (pVar 2)))) (pNotT (pB (pChain ple ple (pC (.int 1)) (pCal plen (pCons (pVar 2) pNil)) (pC (.int 1200)))))) sBad sNx)
    (sSeq (sSet 3 [] (inF (pFn m_wrong_line (pCons (pVar 1) (pCons (pVar 2) pNil)))))
    (sSeq (sIf [] (pB (pBin (pIdK true) (pVar 3) (pC .non))) sBad sNx)
    (sSeq (sSetF 0 "Machine" "_counters" (inF (pVar 1)))
    (sSetF 0 "Machine" "_lines" (inF (unF (pCalF plistF (pCons (pVar 2) pNil))))))))))
def m_Machine_init : List PV → R (List (Str × Slot)) := mInit "Machine" 3 4 b_Machine_init
theorem d_Machine_init {P : Program} {w : World} {K : PySem.W.Frag} {mg : Str → Option Value} {base : Heap} {f : Addr} {fd : FuncData} {C_Machine : Addr} (F : Fun K "__init__" "Machine.__init__" s_Machine_init f fd) (b : Binds K fd ["self", "counters", "lines"] []) (M : Mk K C_Machine f) (fr_list : mg "list" = none) (c_wrong_line : Callee P w K mg base 3 "wrong_line" m_wrong_line) (fr_isinstance : mg "isinstance" = none) (fr_len : mg "len" = none) (t_MOST_LINES : TopV K mg "MOST_LINES" (.int 1200)) (c_is_whole : Callee P w K mg base 1 "is_whole" m_is_whole) (t_MOST_COUNTERS : TopV K mg "MOST_COUNTERS" (.int 40)) (cl_Machine : ClsN K mg "Machine" C_Machine) (na_Machine_lines : NoAttr K C_Machine "_lines") (na_Machine_counters : NoAttr K C_Machine "_counters") : Maker P w K mg base 4 "Machine" m_Machine_init := maker_of (N := N_Machine_init) b_Machine_init F sc_Machine_init cl_Machine M b fun cdv A outer s H E B hr =>
    (b_cons (s_if [] (t_w (w_or (t_not (t_tru (e_call c_is_whole (hr.mono (by omega)) cx_px (a_cons (e_var 1) a_nil)))) (w_or1 (t_cmp op_gtP (e_var 1) (e_glob t_MOST_COUNTERS))))) (b_one s_never) b_nil)
    (b_cons (s_if [] (t_w (w_or (t_not (t_tru (e_isi (e_var 2) fr_isinstance fr_list (by decide +kernel) (by decide +kernel)))) (w_or1 (t_not (t_chain op_leP op_leP e_int (e_blt cb_len fr_len (by decide +kernel) (a_cons (e_var 2) a_nil)) (e_glob t_MOST_LINES)))))) (b_one s_never) b_nil)
    (b_cons (s_set 3 [] (f_in (e_call c_wrong_line (hr.mono (by omega)) cx_px (a_cons (e_var 1) (a_cons (e_var 2) a_nil)))) (.inr (by decide)) nd_Machine_init)
    (b_cons (s_if [] (t_cmp op_isnotP (e_var 3) e_non) (b_one s_never) b_nil)
    (b_cons (s_setf 0 cl_Machine na_Machine_counters (f_in (e_var 1)))
    (b_one (s_setf 0 cl_Machine na_Machine_lines (f_in (e_un (f_ty cb_listF fr_list (by decide +kernel) (a_cons (e_var 2) a_nil)))))))))))
abbrev s_next_state : Stmt := topS 18
abbrev N_next_state : List Str := ["machine", "state", "index", "numbers", "line", "counter"]
theorem sc_next_state : FnScope N_next_state ["machine", "state"] (defScope s_next_state) := ⟨rfl, rfl, rfl, by decide +kernel, rfl, by decide +kernel, by decide +kernel⟩
theorem nd_next_state : N_next_state.Nodup := sc_next_state.nd
def b_next_state : Pu.Env → O :=
  (sSeq (sExpr [] (pFn m_check_state (pCons (pVar 0) (pCons (pVar 1) pNil))))
    (sSeq (sAsg [] (gTupP 2 (gsCons (gNam 2) (gsCons (gNam 3) gsNil))) (pVar 1))
    (sSeq (sSet 4 [] (inF (pMeth "Machine" "line" m_Machine_line (pVar 0) (pCons (pVar 2) pNil))))
    (sSeq (sIf [] (pB (pBin peq (pBin pIxV (pVar 4) (pC (.int 0))) (pC (.str "stop")))) (sRet [] (pC (.str "stopped"))) sNx)
    (sSeq (sIf [] (pB (pBin peq (pBin pIxV (pVar 4) (pC (.int 0))) (pC (.str "go")))) (sRet [] (pTup (pCons (pBin pIxV (pVar 4) (pC (.int 1))) (pCons (pVar 3) pNil)))) sNx)
    (sSeq (sSet 5 [] (inF (pBin pIxV (pVar 4) (pC (.int 1)))))
    (sSeq (sIf [] (pB (pBin peq (pBin pIxV (pVar 4) (pC (.int 0))) (pC (.str "up")))) (sRet [] (pTup (pCons (pBin pIxV (pVar 4) (pC (.int 2))) (pCons (pFn m_changed (pCons (pVar 3) (pCons (pVar 5) (pCons (pC (.int 1)) pNil)))) pNil)))) sNx)
    (sSeq (sIf [] (pB (pBin peq (pBin pIxV (pVar 4) (pC (.int 0))) (pC (.str "zero")))) (sRet [] (pTup (pCons (pIf (pB (pBin peq (pBin pIxV (pVar 3) (pVar 5)) (pC (.int 0)))) (pBin pIxV (pVar 4) (pC (.int 2))) (pBin pIxV (pVar 4) (pC (.int 3)))) (pCons (pVar 3) pNil)))) sNx)
    (sRet [] (pIf (pB (pBin peq (pBin pIxV (pVar 3) (pVar 5)) (pC (.int 0)))) (pC (.str "stuck")) (pTup (pCons (pBin pIxV (pVar 4) (pC (.int 2))) (pCons (pFn m_changed (pCons (pVar 3) (pCons (pVar 5) (pCons (pUn pneg (pC (.int 1))) pNil)))) pNil)))))))))))))
def m_next_state : List PV → R PV := mOf 2 6 b_next_state
theorem d_next_state {P : Program} {w : World} {K : PySem.W.Frag} {mg : Str → Option Value} {base : Heap} {f : Addr} {fd : FuncData} (F : Fun K "next_state" "next_state" s_next_state f fd) (b : Binds K fd ["machine", "state"] []) (hm : mg "next_state" = some (.ref f)) (t_STUCK : TopV K mg "STUCK" (.str "stuck")) (c_changed : Callee P w K mg base 1 "changed" m_changed) (t_STOPPED : TopV K mg "STOPPED" (.str "stopped")) (c_Machine_line : MCallee P w K mg base 1 "Machine" "line" m_Machine_line) (c_check_state : Callee P w K mg base 3 "check_state" m_check_state) : Callee P w K mg base 4 "next_state" m_next_state := callee_of b_next_state F sc_next_state hm b fun cdv A outer s H E B hr h0 =>
    (b_cons (s_expr [] (e_call c_check_state (hr.mono (by omega)) cx_px (a_cons (e_var 0) (a_cons (e_var 1) a_nil))))
    (b_cons (s_asg [] (e_var 1) (g_tup rfl (gs_cons (g_name 2 (.inl h0) nd_next_state) (gs_cons (g_name 3 (.inl h0) nd_next_state) gs_nil))))
    (b_cons (s_set 4 [] (f_in (e_meth c_Machine_line (hr.mono (by omega)) cx_px (e_var 0) (a_cons (e_var 2) a_nil))) (.inl h0) nd_next_state)
    (b_cons (s_if [] (t_cmp (op_eqP (hu64 hr)) (e_ix (e_var 4) e_int) e_str) (b_one (s_ret [] (e_glob t_STOPPED))) b_nil)
    (b_cons (s_if [] (t_cmp (op_eqP (hu64 hr)) (e_ix (e_var 4) e_int) e_str) (b_one (s_ret [] (e_tup (a_cons (e_ix (e_var 4) e_int) (a_cons (e_var 3) a_nil))))) b_nil)
    (b_cons (s_set 5 [] (f_in (e_ix (e_var 4) e_int)) (.inl h0) nd_next_state)
    (b_cons (s_if [] (t_cmp (op_eqP (hu64 hr)) (e_ix (e_var 4) e_int) e_str) (b_one (s_ret [] (e_tup (a_cons (e_ix (e_var 4) e_int) (a_cons (e_call c_changed (hr.mono (by omega)) cx_px (a_cons (e_var 3) (a_cons (e_var 5) (a_cons e_int a_nil)))) a_nil))))) b_nil)
    (b_cons (s_if [] (t_cmp (op_eqP (hu64 hr)) (e_ix (e_var 4) e_int) e_str) (b_one (s_ret [] (e_tup (a_cons (e_if (t_cmp (op_eqP (hu64 hr)) (e_ix (e_var 3) (e_var 5)) e_int) (e_ix (e_var 4) e_int) (e_ix (e_var 4) e_int)) (a_cons (e_var 3) a_nil))))) b_nil)
    (b_one (s_ret [] (e_if (t_cmp (op_eqP (hu64 hr)) (e_ix (e_var 3) (e_var 5)) e_int) (e_glob t_STUCK) (e_tup (a_cons (e_ix (e_var 4) e_int) (a_cons (e_call c_changed (hr.mono (by omega)) cx_px (a_cons (e_var 3) (a_cons (e_var 5) (a_cons (e_neg e_int) a_nil)))) a_nil))))))))))))))
abbrev s_round_of : Stmt := topS 24
abbrev N_round_of : List Str := ["machine", "state", "length", "found", "_", "told"]
theorem sc_round_of : FnScope N_round_of ["machine", "state", "length"] (defScope s_round_of) := ⟨rfl, rfl, rfl, by decide +kernel, rfl, by decide +kernel, by decide +kernel⟩
theorem nd_round_of : N_round_of.Nodup := sc_round_of.nd
def b_round_of : Pu.Env → O :=
  (sSeq (sSet 3 [] (pLstF (pCons (pVar 1) pNil)))
    (sSeq (sFor [] (pIt rng1 (pCons (pVar 2) pNil)) (gNam 4)
    (sSeq (sSet 5 [] (inF (pFn m_next_state (pCons (pVar 0) (pCons (pIxO 3 (pUn pneg (pC (.int 1)))) pNil)))))
    (sSeq (sIf [] (pB (pBin (pin false) (pVar 5) (pTup (pCons (pC (.str "stopped")) (pCons (pC (.str "stuck")) pNil))))) (sRet [] (pC .non)) sNx)
    (sApp 3 [] (pVar 5)))))
    (sRet [3] (pVar 3))))
def m_round_of : List PV → R PV := mOf 3 6 b_round_of
theorem d_round_of {P : Program} {w : World} {K : PySem.W.Frag} {mg : Str → Option Value} {base : Heap} {f : Addr} {fd : FuncData} (F : Fun K "round_of" "round_of" s_round_of f fd) (b : Binds K fd ["machine", "state", "length"] []) (hm : mg "round_of" = some (.ref f)) (fr_range : mg "range" = none) (t_STUCK : TopV K mg "STUCK" (.str "stuck")) (t_STOPPED : TopV K mg "STOPPED" (.str "stopped")) (c_next_state : Callee P w K mg base 4 "next_state" m_next_state) : Callee P w K mg base 5 "round_of" m_round_of := callee_of b_round_of F sc_round_of hm b fun cdv A outer s H E B hr h0 =>
    (b_cons (s_set 3 [] (f_lst (a_cons (e_var 1) a_nil)) (.inl h0) nd_round_of)
    (b_cons (s_for [] cx_po rfl (i_range1 fr_range (a_cons (e_var 2) a_nil)) (g_name 4 (.inl h0) nd_round_of)
    (b_cons (s_set 5 [] (f_in (e_call c_next_state (hr.mono (by omega)) cx_px (a_cons (e_var 0) (a_cons (e_ixo 3 (e_neg e_int)) a_nil)))) (.inl h0) nd_round_of)
    (b_cons (s_if [] (t_cmp (op_inP (hu65 hr)) (e_var 5) (e_tup (a_cons (e_glob t_STOPPED) (a_cons (e_glob t_STUCK) a_nil)))) (b_one (s_ret [] e_non)) b_nil)
    (b_one (s_app 3 [] (e_var 5) (hb := pe_bm PySem.F.plainAttrs_list PySem.F.slot_list_append PySem.F.type_list_append mt_append (pv 3) (pa_cons (e_var 5) pa_nil)))))))
    (b_one (s_ret [3] (e_var 3)))))
abbrev s_law_same : Stmt := topS 34
abbrev N_law_same : List Str := ["told", "due", "k"]
theorem sc_law_same : FnScope N_law_same ["told", "due"] (defScope s_law_same) := ⟨rfl, rfl, rfl, by decide +kernel, rfl, by decide +kernel, by decide +kernel⟩
theorem nd_law_same : N_law_same.Nodup := sc_law_same.nd
def b_law_same (rec : List PV → R PV) : Pu.Env → O :=
  (sSeq (sIf [] (pOrT (pB (pBin (pIdK false) (pVar 1) (pC .non))) (pOrT (pB (pBin (pIdK false) (pVar 1) (pC (.bl true)))) (pB (pBin (pIdK false) (pVar 1) (pC (.bl false)))))) (sRet [] (pOr (pAnd (pBin (pIdK false) (pVar 1) (pC .non)) (pBin (pIdK false) (pVar 0) (pC .non))) (pOr (pAnd (pBin (pIdK false) (pVar 1) (pC (.bl true))) (pBin (pIdK false) (pVar 0) (pC (.bl true)))) (pAnd (pBin (pIdK false) (pVar 1) (pC (.bl false))) (pBin (pIdK false) (pVar 0) (pC (.bl false))))))) sNx)
    (sSeq (sIf [] (pTr (pUn (pisi ["int"]) (pVar 1))) (sRet [] (pAnd (pUn (pisi ["int"]) (pVar 0)) (pAnd (pNot (pUn (pisi ["bool"]) (pVar 0))) (pBin peq (pVar 0) (pVar 1))))) sNx)
    (sSeq (sIf [] (pTr (pUn (pisi ["str"]) (pVar 1))) (sRet [] (pAnd (pUn (pisi ["str"]) (pVar 0)) (pBin peq (pVar 0) (pVar 1)))) sNx)
    (sSeq (sIf [] (pOrT (pB (pBin pne (pUn (pisi ["list"]) (pVar 1)) (pUn (pisi ["list"]) (pVar 0)))) (pB (pBin pne (pUn (pisi ["tuple"]) (pVar 1)) (pUn (pisi ["tuple"]) (pVar 0))))) (sRet [] (pC (.bl false))) sNx)
    (sSeq (sIf [] (pOrT (pAndT (pNotT (pTr (pUn (pisi ["list"]) (pVar 0)))) (pNotT (pTr (pUn (pisi ["tuple"]) (pVar 0))))) (pB (pBin pne (pCal plen (pCons (pVar 0) pNil)) (pCal plen (pCons (pVar 1) pNil))))) (sRet [] (pC (.bl false))) sNx)
    (sSeq (sFor [] (pIt rng1 (pCons (pCal plen (pCons (pVar 1) pNil)) pNil)) (gNam 2)
    (sIf [] (pNotT (pTr (pFn rec (pCons (pBin pIxV (pVar 0) (pVar 2)) (pCons (pBin pIxV (pVar 1) (pVar 2)) pNil))))) (sRet [] (pC (.bl false))) sNx))
    (sRet [] (pC (.bl true)))))))))
def m_law_same : Nat → List PV → R PV
  | 0 => fun _ => .bad
  | n + 1 => mOf 2 3 (b_law_same (m_law_same n))
theorem d_law_same {P : Program} {w : World} {K : PySem.W.Frag} {mg : Str → Option Value} {base : Heap} {f : Addr} {fd : FuncData} (F : Fun K "_law_same" "_law_same" s_law_same f fd) (b : Binds K fd ["told", "due"] []) (hm : mg "_law_same" = some (.ref f)) (fr_len : mg "len" = none) (fr_range : mg "range" = none) (fr_isinstance : mg "isinstance" = none) (fr_list : mg "list" = none) (fr_tuple : mg "tuple" = none) (fr_str : mg "str" = none) (fr_int : mg "int" = none) (fr_bool : mg "bool" = none) : ∀ n, Callee P w K mg base (1 + n) "_law_same" (m_law_same n)
  | 0 => callee_zero F hm b _
  | n + 1 => by
    have ih := d_law_same (P := P) (w := w) (base := base) F b hm fr_len fr_range fr_isinstance fr_list fr_tuple fr_str fr_int fr_bool n
    exact callee_of (k := 1 + n) (b_law_same (m_law_same n)) F sc_law_same hm b fun cdv A outer s H E B hr h0 =>
    (b_cons (s_if [] (t_w (w_or (t_cmp op_isP (e_var 1) e_non) (w_or (t_cmp op_isP (e_var 1) e_bl) (w_or1 (t_cmp op_isP (e_var 1) e_bl))))) (b_one (s_ret [] (e_or (e_and (e_cmp op_isP (e_var 1) e_non) (e_one (e_cmp op_isP (e_var 0) e_non))) (e_or (e_and (e_cmp op_isP (e_var 1) e_bl) (e_one (e_cmp op_isP (e_var 0) e_bl))) (e_one (e_and (e_cmp op_isP (e_var 1) e_bl) (e_one (e_cmp op_isP (e_var 0) e_bl)))))))) b_nil)
    (b_cons (s_if [] (t_tru (e_isi (e_var 1) fr_isinstance fr_int (by decide +kernel) (by decide +kernel))) (b_one (s_ret [] (e_and (e_isi (e_var 0) fr_isinstance fr_int (by decide +kernel) (by decide +kernel)) (e_and (e_not (e_isi (e_var 0) fr_isinstance fr_bool (by decide +kernel) (by decide +kernel))) (e_one (e_cmp (op_eqP (hu64 hr)) (e_var 0) (e_var 1))))))) b_nil)
    (b_cons (s_if [] (t_tru (e_isi (e_var 1) fr_isinstance fr_str (by decide +kernel) (by decide +kernel))) (b_one (s_ret [] (e_and (e_isi (e_var 0) fr_isinstance fr_str (by decide +kernel) (by decide +kernel)) (e_one (e_cmp (op_eqP (hu64 hr)) (e_var 0) (e_var 1)))))) b_nil)
    (b_cons (s_if [] (t_w (w_or (t_cmp (op_neP (hu64 hr)) (e_isi (e_var 1) fr_isinstance fr_list (by decide +kernel) (by decide +kernel)) (e_isi (e_var 0) fr_isinstance fr_list (by decide +kernel) (by decide +kernel))) (w_or1 (t_cmp (op_neP (hu64 hr)) (e_isi (e_var 1) fr_isinstance fr_tuple (by decide +kernel) (by decide +kernel)) (e_isi (e_var 0) fr_isinstance fr_tuple (by decide +kernel) (by decide +kernel)))))) (b_one (s_ret [] e_bl)) b_nil)
    (b_cons (s_if [] (t_w (w_or (t_w (w_and (t_not (t_tru (e_isi (e_var 0) fr_isinstance fr_list (by decide +kernel) (by decide +kernel)))) (w_and1 (t_not (t_tru (e_isi (e_var 0) fr_isinstance fr_tuple (by decide +kernel) (by decide +kernel))))))) (w_or1 (t_cmp (op_neP (hu64 hr)) (e_blt cb_len fr_len (by decide +kernel) (a_cons (e_var 0) a_nil)) (e_blt cb_len fr_len (by decide +kernel) (a_cons (e_var 1) a_nil)))))) (b_one (s_ret [] e_bl)) b_nil)
    (b_cons (s_for [] cx_po rfl (i_range1 fr_range (a_cons (e_blt cb_len fr_len (by decide +kernel) (a_cons (e_var 1) a_nil)) a_nil)) (g_name 2 (.inl h0) nd_law_same)
    (b_one (s_if [] (t_not (t_tru (e_call ih (hr.mono (by omega)) cx_px (a_cons (e_ix (e_var 0) (e_var 2)) (a_cons (e_ix (e_var 1) (e_var 2)) a_nil))))) (b_one (s_ret [] e_bl)) b_nil)))
    (b_one (s_ret [] e_bl))))))))
abbrev s_state_behind : Stmt := topS 30
abbrev N_state_behind : List Str := ["machine", "state", "piece", "told", "most"]
theorem sc_state_behind : FnScope N_state_behind ["machine", "state", "piece"] (defScope s_state_behind) := ⟨rfl, rfl, rfl, by decide +kernel, rfl, by decide +kernel, by decide +kernel⟩
theorem nd_state_behind : N_state_behind.Nodup := sc_state_behind.nd
def b_state_behind : Pu.Env → O :=
  (sSeq (sExpr [] (pFn m_check_state (pCons (pVar 0) (pCons (pVar 1) pNil))))
    (sSeq (sIf [] (pNotT (pTr (pFn m_is_piece (pCons (pVar 2) pNil)))) (sRaise ⟨"BadNumber", []⟩) sNx)
    (sSeq (sIf [] (pB (pBin peq (pBin pIxV (pVar 2) (pC (.int 0))) (pC (.str "step")))) (sSeq (sSet 3 [] (inF (pFn m_round_of (pCons (pVar 0) (pCons (pVar 1) (pCons (pBin pIxV (pVar 2) (pC (.int 1))) pNil))))))
    (sRet [] (pIf (pB (pBin (pIdK false) (pVar 3) (pC .non))) (pC .non) (pBin pIxV (pVar 3) (pUn pneg (pC (.int 1))))))) sNx)
    (sSeq (sSet 3 [] (inF (pFn m_round_of (pCons (pVar 0) (pCons (pVar 1) (pCons (pBin pIxV (pVar 2) (pC (.int 1))) pNil))))))
    (sSeq (sSet 4 [] (inF (pFn m_most_times (pCons (pVar 0) (pCons (pVar 3) pNil)))))
    (sSeq (sIf [] (pAndT (pB (pBin (pIdK true) (pVar 4) (pC .non))) (pB (pBin pgt (pBin pIxV (pVar 2) (pC (.int 2))) (pVar 4)))) (sRet [] (pC .non)) sNx)
    (sRet [] (pFn m_leapt (pCons (pVar 1) (pCons (pFn m_grown (pCons (pVar 3) pNil)) (pCons (pBin pIxV (pVar 2) (pC (.int 2))) pNil)))))))))))
def m_state_behind : List PV → R PV := mOf 3 5 b_state_behind
theorem d_state_behind {P : Program} {w : World} {K : PySem.W.Frag} {mg : Str → Option Value} {base : Heap} {f : Addr} {fd : FuncData} (F : Fun K "state_behind" "state_behind" s_state_behind f fd) (b : Binds K fd ["machine", "state", "piece"] []) (hm : mg "state_behind" = some (.ref f)) (c_grown : Callee P w K mg base 1 "grown" m_grown) (c_leapt : Callee P w K mg base 1 "leapt" m_leapt) (c_most_times : Callee P w K mg base 2 "most_times" m_most_times) (c_round_of : Callee P w K mg base 5 "round_of" m_round_of) (t_STEP : TopV K mg "STEP" (.str "step")) (c_is_piece : Callee P w K mg base 2 "is_piece" m_is_piece) (x_BadNumber : ExcN K mg "BadNumber") (c_check_state : Callee P w K mg base 3 "check_state" m_check_state) : Callee P w K mg base 6 "state_behind" m_state_behind := callee_of b_state_behind F sc_state_behind hm b fun cdv A outer s H E B hr h0 =>
    (b_cons (s_expr [] (e_call c_check_state (hr.mono (by omega)) cx_px (a_cons (e_var 0) (a_cons (e_var 1) a_nil))))
    (b_cons (s_if [] (t_not (t_tru (e_call c_is_piece (hr.mono (by omega)) cx_px (a_cons (e_var 2) a_nil)))) (b_one (s_raise x_BadNumber rfl cx_tk)) b_nil)
    (b_cons (s_if [] (t_cmp (op_eqP (hu64 hr)) (e_ix (e_var 2) e_int) (e_glob t_STEP)) (b_cons (s_set 3 [] (f_in (e_call c_round_of (hr.mono (by omega)) cx_px (a_cons (e_var 0) (a_cons (e_var 1) (a_cons (e_ix (e_var 2) e_int) a_nil))))) (.inl h0) nd_state_behind)
    (b_one (s_ret [] (e_if (t_cmp op_isP (e_var 3) e_non) e_non (e_ix (e_var 3) (e_neg e_int)))))) b_nil)
    (b_cons (s_set 3 [] (f_in (e_call c_round_of (hr.mono (by omega)) cx_px (a_cons (e_var 0) (a_cons (e_var 1) (a_cons (e_ix (e_var 2) e_int) a_nil))))) (.inl h0) nd_state_behind)
    (b_cons (s_set 4 [] (f_in (e_call c_most_times (hr.mono (by omega)) cx_px (a_cons (e_var 0) (a_cons (e_var 3) a_nil)))) (.inl h0) nd_state_behind)
    (b_cons (s_if [] (t_w (w_and (t_cmp op_isnotP (e_var 4) e_non) (w_and1 (t_cmp op_gtP (e_ix (e_var 2) e_int) (e_var 4))))) (b_one (s_ret [] e_non)) b_nil)
    (b_one (s_ret [] (e_call c_leapt (hr.mono (by omega)) cx_px (a_cons (e_var 1) (a_cons (e_call c_grown (hr.mono (by omega)) cx_px (a_cons (e_var 3) a_nil)) (a_cons (e_ix (e_var 2) e_int) a_nil))))))))))))
abbrev s_state_at_end : Stmt := topS 31
abbrev N_state_at_end : List Str := ["machine", "start", "pieces", "state", "steps", "piece"]
theorem sc_state_at_end : FnScope N_state_at_end ["machine", "start", "pieces"] (defScope s_state_at_end) := ⟨rfl, rfl, rfl, by decide +kernel, rfl, by decide +kernel, by decide +kernel⟩
theorem nd_state_at_end : N_state_at_end.Nodup := sc_state_at_end.nd
def b_state_at_end : Pu.Env → O :=
  (sSeq (sExpr [] (pFn m_check_state (pCons (pVar 0) (pCons (pVar 1) pNil))))
    (sSeq (sIf [] (pOrT (pNotT (pTr (pUn (pisi ["list"]) (pVar 2)))) (pB (pBin pgt (pCal plen (pCons (pVar 2) pNil)) (pC (.int 5000))))) (sRaise ⟨"BadNumber", []⟩) sNx)
    (sSeq (sPar 3 4 (inF (pVar 1)) (inF (pC (.int 0))))
    (sSeq (sFor [] (pSeq (pVar 2)) (gNam 5)
    (sSeq (sSet 3 [] (inF (pFn m_state_behind (pCons (pVar 0) (pCons (pVar 3) (pCons (pVar 5) pNil))))))
    (sSeq (sIf [] (pB (pBin (pIdK false) (pVar 3) (pC .non))) (sRet [] (pC .non)) sNx)
    (sAug 4 [] paddI (pBin pmul (pBin pIxV (pVar 5) (pC (.int 1))) (pIf (pB (pBin peq (pBin pIxV (pVar 5) (pC (.int 0))) (pC (.str "leap")))) (pBin pIxV (pVar 5) (pC (.int 2))) (pC (.int 1))))))))
    (sRet [] (pTup (pCons (pVar 3) (pCons (pVar 4) pNil))))))))
def m_state_at_end : List PV → R PV := mOf 3 6 b_state_at_end
theorem d_state_at_end {P : Program} {w : World} {K : PySem.W.Frag} {mg : Str → Option Value} {base : Heap} {f : Addr} {fd : FuncData} (F : Fun K "state_at_end" "state_at_end" s_state_at_end f fd) (b : Binds K fd ["machine", "start", "pieces"] []) (hm : mg "state_at_end" = some (.ref f)) (t_LEAP : TopV K mg "LEAP" (.str "leap")) (c_state_behind : Callee P w K mg base 6 "state_behind" m_state_behind) (fr_isinstance : mg "isinstance" = none) (fr_list : mg "list" = none) (fr_len : mg "len" = none) (t_MOST_PIECES : TopV K mg "MOST_PIECES" (.int 5000)) (x_BadNumber : ExcN K mg "BadNumber") (c_check_state : Callee P w K mg base 3 "check_state" m_check_state) : Callee P w K mg base 7 "state_at_end" m_state_at_end := callee_of b_state_at_end F sc_state_at_end hm b fun cdv A outer s H E B hr h0 =>
    (b_cons (s_expr [] (e_call c_check_state (hr.mono (by omega)) cx_px (a_cons (e_var 0) (a_cons (e_var 1) a_nil))))
    (b_cons (s_if [] (t_w (w_or (t_not (t_tru (e_isi (e_var 2) fr_isinstance fr_list (by decide +kernel) (by decide +kernel)))) (w_or1 (t_cmp op_gtP (e_blt cb_len fr_len (by decide +kernel) (a_cons (e_var 2) a_nil)) (e_glob t_MOST_PIECES))))) (b_one (s_raise x_BadNumber rfl cx_tk)) b_nil)
    (b_cons (s_par 3 4 (f_in (e_var 1)) (f_in e_int) (.inl h0) (.inl h0) rfl nd_state_at_end)
    (b_cons (s_for [] cx_po rfl (i_seq (e_var 2)) (g_name 5 (.inl h0) nd_state_at_end)
    (b_cons (s_set 3 [] (f_in (e_call c_state_behind (hr.mono (by omega)) cx_px (a_cons (e_var 0) (a_cons (e_var 3) (a_cons (e_var 5) a_nil))))) (.inl h0) nd_state_at_end)
    (b_cons (s_if [] (t_cmp op_isP (e_var 3) e_non) (b_one (s_ret [] e_non)) b_nil)
    (b_one (s_aug 4 [] iop_addP (e_bin op_mulP (e_ix (e_var 5) e_int) (e_if (t_cmp (op_eqP (hu64 hr)) (e_ix (e_var 5) e_int) (e_glob t_LEAP)) (e_ix (e_var 5) e_int) e_int)) (.inl h0) nd_state_at_end)))))
    (b_one (s_ret [] (e_tup (a_cons (e_var 3) (a_cons (e_var 4) a_nil)))))))))
abbrev s_law_refused : Stmt := topS 39
abbrev N_law_refused : List Str := ["machine", "state", "piece"]
theorem sc_law_refused : FnScope N_law_refused ["machine", "state", "piece"] (defScope s_law_refused) := ⟨rfl, rfl, rfl, by decide +kernel, rfl, by decide +kernel, by decide +kernel⟩
theorem nd_law_refused : N_law_refused.Nodup := sc_law_refused.nd
def b_law_refused : Pu.Env → O :=
  (sSeq (sTry tbl_BadNumber (sExpr [] (pFn m_state_behind (pCons (pVar 0) (pCons (pVar 1) (pCons (pVar 2) pNil))))) (sRet [] (pC (.bl true))))
    (sRet [] (pC (.bl false))))
def m_law_refused : List PV → R PV := mOf 3 3 b_law_refused
theorem d_law_refused {P : Program} {w : World} {K : PySem.W.Frag} {mg : Str → Option Value} {base : Heap} {f : Addr} {fd : FuncData} {E_BadNumber : Value} (F : Fun K "_law_refused" "_law_refused" s_law_refused f fd) (b : Binds K fd ["machine", "state", "piece"] []) (hm : mg "_law_refused" = some (.ref f)) (c_state_behind : Callee P w K mg base 6 "state_behind" m_state_behind) (g_BadNumber : mg "BadNumber" = some E_BadNumber) (ct_BadNumber : Catch K mg E_BadNumber tbl_BadNumber) : Callee P w K mg base 7 "_law_refused" m_law_refused := callee_of b_law_refused F sc_law_refused hm b fun cdv A outer s H E B hr h0 =>
    (b_cons (s_try tbl_BadNumber ⟨rfl, by decide, .inl g_BadNumber⟩ cx_tk ct_BadNumber (fun _ _ _ tk po => (b_one (s_expr [] (e_call c_state_behind (hr.mono (by omega)) (px_of tk) (a_cons (e_var 0) (a_cons (e_var 1) (a_cons (e_var 2) a_nil))))))) (fun _ _ _ _ _ _ _ => (b_one (s_ret [] e_bl))))
    (b_one (s_ret [] e_bl)))
abbrev s_law_pieces : Stmt := topS 40
abbrev N_law_pieces : List Str := ["machine", "states", "due", "numbers", "length", "state", "times", "line", "told", "behind", "j"]
theorem sc_law_pieces : FnScope N_law_pieces ["machine", "states", "due", "numbers"] (defScope s_law_pieces) := ⟨rfl, rfl, rfl, by decide +kernel, rfl, by decide +kernel, by decide +kernel⟩
theorem nd_law_pieces : N_law_pieces.Nodup := sc_law_pieces.nd
def b_law_pieces : Pu.Env → O :=
  (sSeq (sPar 4 5 (inF (pBin psub (pCal plen (pCons (pVar 1) pNil)) (pC (.int 1)))) (inF (pBin pIxV (pVar 1) (pC (.int 0)))))
    (sSeq (sIf [] (pB (pBin pgt (pVar 4) (pC (.int 400)))) (sRet [] (pAnd (pFn m_law_refused (pCons (pVar 0) (pCons (pVar 5) (pCons (pTup (pCons (pC (.str "leap")) (pCons (pVar 4) (pCons (pC (.int 1)) pNil)))) pNil)))) (pFn (m_law_same 4) (pCons (pFn m_state_behind (pCons (pVar 0) (pCons (pVar 5) (pCons (pTup (pCons (pC (.str "step")) (pCons (pVar 4) pNil))) pNil)))) (pCons (pBin pIxV (pVar 1) (pUn pneg (pC (.int 1)))) pNil))))) sNx)
    (sSeq (sSet 6 [] (inF (pBin padd (pBin padd (pC (.int 1)) (pBin pmul (pBin pIxV (pVar 3) (pC (.int 0))) (pC (.int 1009)))) (pBin pIxV (pVar 3) (pC (.int 1))))))
    (sSeq (sIf [] (pB (pBin (pIdK true) (pVar 2) (pC .non))) (sSeq (sIf [] (pB (pBin (pIdK true) (pFn m_state_behind (pCons (pVar 0) (pCons (pVar 5) (pCons (pTup (pCons (pC (.str "leap")) (pCons (pVar 4) (pCons (pBin padd (pBin padd (pVar 2) (pC (.int 1))) (pBin pmod (pBin pIxV (pVar 3) (pC (.int 0))) (pC (.int 3)))) pNil)))) pNil)))) (pC .non))) (sRet [] (pC (.bl false))) sNx)
    (sSet 6 [] (inF (pVar 2)))) sNx)
    (sSeq (sAsg [] (gTupP 2 (gsCons (gNam 7) (gsCons (gNam 8) gsNil))) (pVar 5))
    (sSeq (sSet 9 [] (inF (pTup (pCons (pVar 7) (pCons (pCal ptuple (pCons (unF (pComp [10] (pIt rng1 (pCons (pCal plen (pCons (pVar 8) pNil)) pNil)) (Tg.g (.nam 10)) tYesP (pBin padd (pBin pIxV (pVar 8) (pVar 10)) (pBin pmul (pVar 6) (pBin psub (pBin pIxV (pBin pIxV (pBin pIxV (pVar 1) (pUn pneg (pC (.int 1)))) (pC (.int 1))) (pVar 10)) (pBin pIxV (pVar 8) (pVar 10))))))) pNil)) pNil)))))
    (sSeq (sIf [] (pNotT (pTr (pFn (m_law_same 4) (pCons (pFn m_state_behind (pCons (pVar 0) (pCons (pVar 5) (pCons (pTup (pCons (pC (.str "leap")) (pCons (pVar 4) (pCons (pVar 6) pNil)))) pNil)))) (pCons (pVar 9) pNil))))) (sRet [] (pC (.bl false))) sNx)
    (sRet [] (pFn (m_law_same 4) (pCons (pFn m_state_at_end (pCons (pVar 0) (pCons (pVar 5) (pCons (unF (pLstF (pCons (pTup (pCons (pC (.str "leap")) (pCons (pVar 4) (pCons (pVar 6) pNil)))) pNil))) pNil)))) (pCons (pTup (pCons (pVar 9) (pCons (pBin pmul (pVar 4) (pVar 6)) pNil))) pNil)))))))))))
def m_law_pieces : List PV → R PV := mOf 4 11 b_law_pieces
theorem d_law_pieces {P : Program} {w : World} {K : PySem.W.Frag} {mg : Str → Option Value} {base : Heap} {f : Addr} {fd : FuncData} (F : Fun K "_law_pieces" "_law_pieces" s_law_pieces f fd) (b : Binds K fd ["machine", "states", "due", "numbers"] []) (hm : mg "_law_pieces" = some (.ref f)) (c_state_at_end : Callee P w K mg base 7 "state_at_end" m_state_at_end) (c_law_same : Callee P w K mg base 5 "_law_same" (m_law_same 4)) (c_state_behind : Callee P w K mg base 6 "state_behind" m_state_behind) (fr_len : mg "len" = none) (fr_range : mg "range" = none) (fr_tuple : mg "tuple" = none) (c_law_refused : Callee P w K mg base 7 "_law_refused" m_law_refused) : Callee P w K mg base 8 "_law_pieces" m_law_pieces := callee_of b_law_pieces F sc_law_pieces hm b fun cdv A outer s H E B hr h0 =>
    (b_cons (s_par 4 5 (f_in (e_bin op_subP (e_blt cb_len fr_len (by decide +kernel) (a_cons (e_var 1) a_nil)) e_int)) (f_in (e_ix (e_var 1) e_int)) (.inl h0) (.inl h0) rfl nd_law_pieces)
    (b_cons (s_if [] (t_cmp op_gtP (e_var 4) e_int) (b_one (s_ret [] (e_and (e_call c_law_refused (hr.mono (by omega)) cx_px (a_cons (e_var 0) (a_cons (e_var 5) (a_cons (e_tup (a_cons e_str (a_cons (e_var 4) (a_cons e_int a_nil)))) a_nil)))) (e_one (e_call c_law_same (hr.mono (by omega)) cx_px (a_cons (e_call c_state_behind (hr.mono (by omega)) cx_px (a_cons (e_var 0) (a_cons (e_var 5) (a_cons (e_tup (a_cons e_str (a_cons (e_var 4) a_nil))) a_nil)))) (a_cons (e_ix (e_var 1) (e_neg e_int)) a_nil))))))) b_nil)
    (b_cons (s_set 6 [] (f_in (e_bin op_addP (e_bin op_addP e_int (e_bin op_mulP (e_ix (e_var 3) e_int) e_int)) (e_ix (e_var 3) e_int))) (.inl h0) nd_law_pieces)
    (b_cons (s_if [] (t_cmp op_isnotP (e_var 2) e_non) (b_cons (s_if [] (t_cmp op_isnotP (e_call c_state_behind (hr.mono (by omega)) cx_px (a_cons (e_var 0) (a_cons (e_var 5) (a_cons (e_tup (a_cons e_str (a_cons (e_var 4) (a_cons (e_bin op_addP (e_bin op_addP (e_var 2) e_int) (e_bin op_modP (e_ix (e_var 3) e_int) e_int)) a_nil)))) a_nil)))) e_non) (b_one (s_ret [] e_bl)) b_nil)
    (b_one (s_set 6 [] (f_in (e_var 2)) (.inl h0) nd_law_pieces))) b_nil)
    (b_cons (s_asg [] (e_var 5) (g_tup rfl (gs_cons (g_name 7 (.inl h0) nd_law_pieces) (gs_cons (g_name 8 (.inl h0) nd_law_pieces) gs_nil))))
    (b_cons (s_set 9 [] (f_in (e_tup (a_cons (e_var 7) (a_cons (e_ty cb_tuple fr_tuple (by decide +kernel) (a_cons (e_un (f_lc (own := [("j", 10)]) (.nam 10) rfl nd_law_pieces (fun i hi => by exact .inl h0) (by decide) (i_range1 fr_range (a_cons (e_blt cb_len fr_len (by decide +kernel) (a_cons (e_var 8) a_nil)) a_nil)) (blkOk_by (N := N_law_pieces) (sc := defScope s_law_pieces) (by decide +kernel)) (fun _ _ _ _ _ => pg_name (i := 10) nd_law_pieces rfl (by first | exact Or.inl rfl | exact Or.inr rfl)) (fun _ _ _ _ _ => q_nil) (fun _ _ _ _ _ => (e_bin op_addP (e_ix (e_var 8) (e_var 10)) (e_bin op_mulP (e_var 6) (e_bin op_subP (e_ix (e_ix (e_ix (e_var 1) (e_neg e_int)) e_int) (e_var 10)) (e_ix (e_var 8) (e_var 10)))))))) a_nil)) a_nil)))) (.inl h0) nd_law_pieces)
    (b_cons (s_if [] (t_not (t_tru (e_call c_law_same (hr.mono (by omega)) cx_px (a_cons (e_call c_state_behind (hr.mono (by omega)) cx_px (a_cons (e_var 0) (a_cons (e_var 5) (a_cons (e_tup (a_cons e_str (a_cons (e_var 4) (a_cons (e_var 6) a_nil)))) a_nil)))) (a_cons (e_var 9) a_nil))))) (b_one (s_ret [] e_bl)) b_nil)
    (b_one (s_ret [] (e_call c_law_same (hr.mono (by omega)) cx_px (a_cons (e_call c_state_at_end (hr.mono (by omega)) cx_px (a_cons (e_var 0) (a_cons (e_var 5) (a_cons (e_un (f_lst (a_cons (e_tup (a_cons e_str (a_cons (e_var 4) (a_cons (e_var 6) a_nil)))) a_nil))) a_nil)))) (a_cons (e_tup (a_cons (e_var 9) (a_cons (e_bin op_mulP (e_var 4) (e_var 6)) a_nil))) a_nil))))))))))))
abbrev s_law : Stmt := topS 41
abbrev N_law : List Str := ["script", "numbers", "drawn", "wide", "endless", "lines", "machine", "told", "j", "k", "turns", "word", "states", "due", "at", "cut"]
theorem sc_law : FnScope N_law ["script"] (defScope s_law) := ⟨rfl, rfl, rfl, by decide +kernel, rfl, by decide +kernel, by decide +kernel⟩
theorem nd_law : N_law.Nodup := sc_law.nd
def b_law : Pu.Env → O :=
  (sSeq (sSet 1 [] (inF (pFn m_law_numbers (pCons (pVar 0) (pCons (pC (.int 0)) (pCons (pC (.int 40)) pNil))))))
    (sSeq (sSet 2 [] (inF (pFn m_law_numbers (pCons (pVar 0) (pCons (pC (.int 1)) (pCons (pC (.int 20)) pNil))))))
    (sSeq (sSet 3 [] (inF (pBin pmod (pBin pIxV (pVar 1) (pC (.int 36))) (pC (.int 8)))))
    (sSeq (sIf [] (pB (pBin peq (pBin pmod (pBin pIxV (pVar 1) (pC (.int 37))) (pC (.int 5))) (pC (.int 0)))) (sSet 3 [] (inF (pBin padd (pC (.int 400)) (pBin pmod (pBin pIxV (pVar 1) (pC (.int 36))) (pC (.int 499)))))) sNx)
    (sSeq (sSet 4 [] (inF (pAnd (pBin peq (pBin pmod (pBin pIxV (pVar 2) (pC (.int 0))) (pC (.int 4))) (pC (.int 0))) (pBin pgt (pVar 3) (pC (.int 0))))))
    (sSeq (sSet 5 [] (inF (pFn m_law_loop (pCons (pVar 1) (pCons (pVar 3) (pCons (pVar 4) pNil))))))
    (sSeq (sPar 6 7 (inF (unF (pMake "Machine" m_Machine_init (pCons (pC (.int 3)) (pCons (unF (pCalF plistF (pCons (pVar 5) pNil))) pNil))))) (pLstF (pCons (pBin pmod (pBin pIxV (pVar 2) (pC (.int 1))) (pC (.int 13))) (pCons (pBin pmod (pBin pIxV (pVar 2) (pC (.int 2))) (pC (.int 5))) (pCons (pBin pmod (pBin pIxV (pVar 2) (pC (.int 3))) (pC (.int 5))) pNil)))))
    (sSeq (sFor [] (pIt rng1 (pCons (pC (.int 3)) pNil)) (gNam 8)
    (sIf [] (pOrT (pB (pBin peq (pBin pmod (pBin pIxV (pVar 2) (pBin padd (pC (.int 4)) (pVar 8))) (pC (.int 4))) (pC (.int 0)))) (pB (pBin pgt (pVar 3) (pC (.int 9))))) (sFor [] (pIt rng1 (pCons (pBin pIxV (unF (pLstF (pCons (pC (.int 9)) (pCons (pC (.int 1)) pNil)))) (pCal pint (pCons (pBin pgt (pBin pmod (pBin pIxV (pVar 2) (pBin padd (pC (.int 4)) (pVar 8))) (pC (.int 4))) (pC (.int 0))) pNil))) pNil)) (gNam 9)
    (sSetIx 7 [] (pVar 8) (pBin padd (pBin pmul (pIxO 7 (pVar 8)) (pC (.int 1009))) (pBin pIxV (pVar 2) (pBin padd (pC (.int 7)) (pVar 9)))))) sNx))
    (sSeq (sSet 10 [] (inF (pBin padd (pC (.int 1)) (pBin pmul (pBin pmod (pBin pIxV (pVar 2) (pC (.int 16))) (pC (.int 2))) (pCal pint (pCons (pBin plt (pVar 3) (pC (.int 9))) pNil))))))
    (sSeq (sAsg [7] (gTupP 2 (gsCons (gNam 11) (gsCons (gNam 12) gsNil))) (pFn m_law_run (pCons (pVar 5) (pCons (pTup (pCons (pC (.int 0)) (pCons (pCal ptuple (pCons (pVar 7) pNil)) pNil))) (pCons (pBin pmul (pVar 10) (pBin padd (pVar 3) (pC (.int 2)))) pNil)))))
    (sSeq (sIf [] (pOrT (pNotT (pTr (pFn (m_law_same 4) (pCons (pFn m_most_times (pCons (pVar 6) (pCons (unF (pLstF (pCons (pBin pIxV (pVar 12) (pC (.int 0))) pNil))) pNil))) (pCons (pC (.int 0)) pNil))))) (pNotT (pTr (pFn (m_law_same 4) (pCons (pFn m_most_times (pCons (pVar 6) (pCons (unF (pSli (pVar 12) pNoPart (pPart (pC (.int 2))))) pNil))) (pCons (pFn m_law_due (pCons (pVar 5) (pCons (unF (pSli (pVar 12) pNoPart (pPart (pC (.int 2))))) pNil))) pNil)))))) (sRet [] (pC (.bl false))) sNx)
    (sSeq (sIf [] (pB (pBin plt (pCal plen (pCons (pVar 12) pNil)) (pBin padd (pBin pmul (pVar 10) (pBin padd (pVar 3) (pC (.int 2)))) (pC (.int 1))))) (sRet [] (pFn (m_law_same 4) (pCons (pFn m_most_times (pCons (pVar 6) (pCons (unF (pCalF plistF (pCons (pVar 12) pNil))) pNil))) (pCons (pFn m_law_due (pCons (pVar 5) (pCons (pVar 12) pNil))) pNil)))) sNx)
    (sSeq (sSet 13 [] (inF (pFn m_law_due (pCons (pVar 5) (pCons (pVar 12) pNil)))))
    (sSeq (sIf [] (pNotT (pTr (pFn (m_law_same 4) (pCons (pFn m_most_times (pCons (pVar 6) (pCons (unF (pCalF plistF (pCons (pVar 12) pNil))) pNil))) (pCons (pVar 13) pNil))))) (sRet [] (pC (.bl false))) sNx)
    (sSeq (sSet 14 [] (inF (pBin padd (pC (.int 1)) (pBin pmod (pBin pIxV (pVar 2) (pC (.int 17))) (pBin psub (pCal plen (pCons (pVar 12) pNil)) (pC (.int 1)))))))
    (sSeq (sSet 15 [] (inF (unF (pSli (pVar 12) pNoPart (pPart (pVar 14))))))
    (sSeq (sIf [] (pNotT (pTr (pFn (m_law_same 4) (pCons (pFn m_most_times (pCons (pVar 6) (pCons (unF (pCalF plistF (pCons (pVar 15) pNil))) pNil))) (pCons (pFn m_law_due (pCons (pVar 5) (pCons (pVar 15) pNil))) pNil))))) (sRet [] (pC (.bl false))) sNx)
    (sRet [] (pFn m_law_pieces (pCons (pVar 6) (pCons (pVar 12) (pCons (pVar 13) (pCons (unF (pSli (pVar 2) (pPart (pC (.int 18))) pNoPart)) pNil)))))))))))))))))))))))
def m_law : List PV → R PV := mOf 1 16 b_law
theorem d_law {P : Program} {w : World} {K : PySem.W.Frag} {mg : Str → Option Value} {base : Heap} {f : Addr} {fd : FuncData} (F : Fun K "law" "law" s_law f fd) (b : Binds K fd ["script"] []) (c_law_pieces : Callee P w K mg base 8 "_law_pieces" m_law_pieces) (c_law_due : Callee P w K mg base 1 "_law_due" m_law_due) (fr_list : mg "list" = none) (c_most_times : Callee P w K mg base 2 "most_times" m_most_times) (c_law_same : Callee P w K mg base 5 "_law_same" (m_law_same 4)) (fr_len : mg "len" = none) (fr_tuple : mg "tuple" = none) (c_law_run : Callee P w K mg base 2 "_law_run" m_law_run) (fr_int : mg "int" = none) (fr_range : mg "range" = none) (c_Machine_init : Maker P w K mg base 4 "Machine" m_Machine_init) (c_law_loop : Callee P w K mg base 1 "_law_loop" m_law_loop) (c_law_numbers : Callee P w K mg base 1 "_law_numbers" m_law_numbers) : FnOk P w K mg base (L2.CX P w) 9 f fd ["script"] (spP K mg m_law) := def_fn (N := N_law) b_law F sc_law fun cdv A outer s H E B hr h0 =>
    (b_cons (s_set 1 [] (f_in (e_call c_law_numbers (hr.mono (by omega)) cx_px (a_cons (e_var 0) (a_cons e_int (a_cons e_int a_nil))))) (.inl h0) nd_law)
    (b_cons (s_set 2 [] (f_in (e_call c_law_numbers (hr.mono (by omega)) cx_px (a_cons (e_var 0) (a_cons e_int (a_cons e_int a_nil))))) (.inl h0) nd_law)
    (b_cons (s_set 3 [] (f_in (e_bin op_modP (e_ix (e_var 1) e_int) e_int)) (.inl h0) nd_law)
    (b_cons (s_if [] (t_cmp (op_eqP (hu64 hr)) (e_bin op_modP (e_ix (e_var 1) e_int) e_int) e_int) (b_one (s_set 3 [] (f_in (e_bin op_addP e_int (e_bin op_modP (e_ix (e_var 1) e_int) e_int))) (.inl h0) nd_law)) b_nil)
    (b_cons (s_set 4 [] (f_in (e_and (e_cmp (op_eqP (hu64 hr)) (e_bin op_modP (e_ix (e_var 2) e_int) e_int) e_int) (e_one (e_cmp op_gtP (e_var 3) e_int)))) (.inl h0) nd_law)
    (b_cons (s_set 5 [] (f_in (e_call c_law_loop (hr.mono (by omega)) cx_px (a_cons (e_var 1) (a_cons (e_var 3) (a_cons (e_var 4) a_nil))))) (.inl h0) nd_law)
    (b_cons (s_par 6 7 (f_in (e_un (f_make c_Machine_init (hr.mono (by decide)) cx_px (a_cons e_int (a_cons (e_un (f_ty cb_listF fr_list (by decide +kernel) (a_cons (e_var 5) a_nil))) a_nil))))) (f_lst (a_cons (e_bin op_modP (e_ix (e_var 2) e_int) e_int) (a_cons (e_bin op_modP (e_ix (e_var 2) e_int) e_int) (a_cons (e_bin op_modP (e_ix (e_var 2) e_int) e_int) a_nil)))) (.inl h0) (.inl h0) rfl nd_law)
    (b_cons (s_for [] cx_po rfl (i_range1 fr_range (a_cons e_int a_nil)) (g_name 8 (.inl h0) nd_law)
    (b_one (s_if [] (t_w (w_or (t_cmp (op_eqP (hu64 hr)) (e_bin op_modP (e_ix (e_var 2) (e_bin op_addP e_int (e_var 8))) e_int) e_int) (w_or1 (t_cmp op_gtP (e_var 3) e_int)))) (b_one (s_for [] cx_po rfl (i_range1 fr_range (a_cons (e_ix (e_un (f_lst (a_cons e_int (a_cons e_int a_nil)))) (e_ty cb_int fr_int (by decide +kernel) (a_cons (e_cmp op_gtP (e_bin op_modP (e_ix (e_var 2) (e_bin op_addP e_int (e_var 8))) e_int) e_int) a_nil))) a_nil)) (g_name 9 (.inl h0) nd_law)
    (b_one (s_setix 7 [] (e_bin op_addP (e_bin op_mulP (e_ixo 7 (e_var 8)) e_int) (e_ix (e_var 2) (e_bin op_addP e_int (e_var 9)))) (e_var 8))))) b_nil)))
    (b_cons (s_set 10 [] (f_in (e_bin op_addP e_int (e_bin op_mulP (e_bin op_modP (e_ix (e_var 2) e_int) e_int) (e_ty cb_int fr_int (by decide +kernel) (a_cons (e_cmp op_ltP (e_var 3) e_int) a_nil))))) (.inl h0) nd_law)
    (b_cons (s_asg [7] (e_call c_law_run (hr.mono (by omega)) cx_px (a_cons (e_var 5) (a_cons (e_tup (a_cons e_int (a_cons (e_ty cb_tuple fr_tuple (by decide +kernel) (a_cons (e_var 7) a_nil)) a_nil))) (a_cons (e_bin op_mulP (e_var 10) (e_bin op_addP (e_var 3) e_int)) a_nil)))) (g_tup rfl (gs_cons (g_name 11 (.inl h0) nd_law) (gs_cons (g_name 12 (.inl h0) nd_law) gs_nil))))
    (b_cons (s_if [] (t_w (w_or (t_not (t_tru (e_call c_law_same (hr.mono (by omega)) cx_px (a_cons (e_call c_most_times (hr.mono (by omega)) cx_px (a_cons (e_var 6) (a_cons (e_un (f_lst (a_cons (e_ix (e_var 12) e_int) a_nil))) a_nil))) (a_cons e_int a_nil))))) (w_or1 (t_not (t_tru (e_call c_law_same (hr.mono (by omega)) cx_px (a_cons (e_call c_most_times (hr.mono (by omega)) cx_px (a_cons (e_var 6) (a_cons (e_un (f_sl (e_var 12) o_none (o_some e_int))) a_nil))) (a_cons (e_call c_law_due (hr.mono (by omega)) cx_px (a_cons (e_var 5) (a_cons (e_un (f_sl (e_var 12) o_none (o_some e_int))) a_nil))) a_nil)))))))) (b_one (s_ret [] e_bl)) b_nil)
    (b_cons (s_if [] (t_cmp op_ltP (e_blt cb_len fr_len (by decide +kernel) (a_cons (e_var 12) a_nil)) (e_bin op_addP (e_bin op_mulP (e_var 10) (e_bin op_addP (e_var 3) e_int)) e_int)) (b_one (s_ret [] (e_call c_law_same (hr.mono (by omega)) cx_px (a_cons (e_call c_most_times (hr.mono (by omega)) cx_px (a_cons (e_var 6) (a_cons (e_un (f_ty cb_listF fr_list (by decide +kernel) (a_cons (e_var 12) a_nil))) a_nil))) (a_cons (e_call c_law_due (hr.mono (by omega)) cx_px (a_cons (e_var 5) (a_cons (e_var 12) a_nil))) a_nil))))) b_nil)
    (b_cons (s_set 13 [] (f_in (e_call c_law_due (hr.mono (by omega)) cx_px (a_cons (e_var 5) (a_cons (e_var 12) a_nil)))) (.inl h0) nd_law)
    (b_cons (s_if [] (t_not (t_tru (e_call c_law_same (hr.mono (by omega)) cx_px (a_cons (e_call c_most_times (hr.mono (by omega)) cx_px (a_cons (e_var 6) (a_cons (e_un (f_ty cb_listF fr_list (by decide +kernel) (a_cons (e_var 12) a_nil))) a_nil))) (a_cons (e_var 13) a_nil))))) (b_one (s_ret [] e_bl)) b_nil)
    (b_cons (s_set 14 [] (f_in (e_bin op_addP e_int (e_bin op_modP (e_ix (e_var 2) e_int) (e_bin op_subP (e_blt cb_len fr_len (by decide +kernel) (a_cons (e_var 12) a_nil)) e_int)))) (.inl h0) nd_law)
    (b_cons (s_set 15 [] (f_in (e_un (f_sl (e_var 12) o_none (o_some (e_var 14))))) (.inl h0) nd_law)
    (b_cons (s_if [] (t_not (t_tru (e_call c_law_same (hr.mono (by omega)) cx_px (a_cons (e_call c_most_times (hr.mono (by omega)) cx_px (a_cons (e_var 6) (a_cons (e_un (f_ty cb_listF fr_list (by decide +kernel) (a_cons (e_var 15) a_nil))) a_nil))) (a_cons (e_call c_law_due (hr.mono (by omega)) cx_px (a_cons (e_var 5) (a_cons (e_var 15) a_nil))) a_nil))))) (b_one (s_ret [] e_bl)) b_nil)
    (b_one (s_ret [] (e_call c_law_pieces (hr.mono (by omega)) cx_px (a_cons (e_var 6) (a_cons (e_var 12) (a_cons (e_var 13) (a_cons (e_un (f_sl (e_var 2) (o_some e_int) o_none)) a_nil))))))))))))))))))))))))
end
end K12
set_option Elab.async false
set_option linter.all false
set_option maxRecDepth 100000
set_option maxHeartbeats 0
namespace K12
open PySem PySem.Spec PyProof.Rows L2 Pu
def fn : List He.DefD := [⟨("is_whole", none), "is_whole", "is_whole", defArgs s_is_whole, defBody s_is_whole, defScope s_is_whole, [], []⟩,
  ⟨("Machine", some "counters"), "counters", "Machine.counters", defArgs s_Machine_counters, defBody s_Machine_counters, defScope s_Machine_counters, [], []⟩,
  ⟨("Machine", some "lines"), "lines", "Machine.lines", defArgs s_Machine_lines, defBody s_Machine_lines, defScope s_Machine_lines, [], []⟩,
  ⟨("Machine", some "line"), "line", "Machine.line", defArgs s_Machine_line, defBody s_Machine_line, defScope s_Machine_line, [], []⟩,
  ⟨("Machine", some "count"), "count", "Machine.count", defArgs s_Machine_count, defBody s_Machine_count, defScope s_Machine_count, [], []⟩,
  ⟨("Machine", some "last"), "last", "Machine.last", defArgs s_Machine_last, defBody s_Machine_last, defScope s_Machine_last, [], []⟩,
  ⟨("changed", none), "changed", "changed", defArgs s_changed, defBody s_changed, defScope s_changed, [], []⟩,
  ⟨("grown", none), "grown", "grown", defArgs s_grown, defBody s_grown, defScope s_grown, [], []⟩,
  ⟨("times_for", none), "times_for", "times_for", defArgs s_times_for, defBody s_times_for, defScope s_times_for, [], []⟩,
  ⟨("leapt", none), "leapt", "leapt", defArgs s_leapt, defBody s_leapt, defScope s_leapt, [], []⟩,
  ⟨("_law_numbers", none), "_law_numbers", "_law_numbers", defArgs s_law_numbers, defBody s_law_numbers, defScope s_law_numbers, [], []⟩,
  ⟨("_law_step", none), "_law_step", "_law_step", defArgs s_law_step, defBody s_law_step, defScope s_law_step, [], []⟩,
  ⟨("_law_loop", none), "_law_loop", "_law_loop", defArgs s_law_loop, defBody s_law_loop, defScope s_law_loop, [], []⟩,
  ⟨("_law_due", none), "_law_due", "_law_due", defArgs s_law_due, defBody s_law_due, defScope s_law_due, [], []⟩,
  ⟨("is_line", none), "is_line", "is_line", defArgs s_is_line, defBody s_is_line, defScope s_is_line, [], []⟩,
  ⟨("is_state", none), "is_state", "is_state", defArgs s_is_state, defBody s_is_state, defScope s_is_state, [], []⟩,
  ⟨("most_times", none), "most_times", "most_times", defArgs s_most_times, defBody s_most_times, defScope s_most_times, [], []⟩,
  ⟨("is_piece", none), "is_piece", "is_piece", defArgs s_is_piece, defBody s_is_piece, defScope s_is_piece, [], []⟩,
  ⟨("_law_run", none), "_law_run", "_law_run", defArgs s_law_run, defBody s_law_run, defScope s_law_run, [], []⟩,
  ⟨("wrong_line", none), "wrong_line", "wrong_line", defArgs s_wrong_line, defBody s_wrong_line, defScope s_wrong_line, [], []⟩,
  ⟨("check_state", none), "check_state", "check_state", defArgs s_check_state, defBody s_check_state, defScope s_check_state, [], []⟩,
  ⟨("Machine", some "__init__"), "__init__", "Machine.__init__", defArgs s_Machine_init, defBody s_Machine_init, defScope s_Machine_init, [], []⟩,
  ⟨("next_state", none), "next_state", "next_state", defArgs s_next_state, defBody s_next_state, defScope s_next_state, [], []⟩,
  ⟨("round_of", none), "round_of", "round_of", defArgs s_round_of, defBody s_round_of, defScope s_round_of, [], []⟩,
  ⟨("_law_same", none), "_law_same", "_law_same", defArgs s_law_same, defBody s_law_same, defScope s_law_same, [], []⟩,
  ⟨("state_behind", none), "state_behind", "state_behind", defArgs s_state_behind, defBody s_state_behind, defScope s_state_behind, [], []⟩,
  ⟨("state_at_end", none), "state_at_end", "state_at_end", defArgs s_state_at_end, defBody s_state_at_end, defScope s_state_at_end, [], []⟩,
  ⟨("_law_refused", none), "_law_refused", "_law_refused", defArgs s_law_refused, defBody s_law_refused, defScope s_law_refused, [], []⟩,
  ⟨("_law_pieces", none), "_law_pieces", "_law_pieces", defArgs s_law_pieces, defBody s_law_pieces, defScope s_law_pieces, [], []⟩,
  ⟨("law", none), "law", "law", defArgs s_law, defBody s_law, defScope s_law, [], []⟩]
def fa : List He.Fa := [.glo "is_whole", .free "isinstance", .free "int", .free "bool", .meth "Machine" "counters", .glo "Machine", .cls "Machine", .noat "Machine" "_counters", .meth "Machine" "lines", .free "list", .noat "Machine" "_lines", .meth "Machine" "line", .meth "Machine" "count", .free "len", .meth "Machine" "last", .glo "changed", .glo "grown", .free "zip", .free "tuple", .glo "times_for", .glo "leapt", .glo "_law_numbers", .free "range", .glo "_law_step", .glo "_law_loop", .glo "_law_due", .glo "is_line", .free "max", .free "all", .free "str", .glo "is_state", .glo "most_times", .free "min", .glo "is_piece", .str "LEAP" "leap", .int "MOST_ROUND" 400, .str "STEP" "step", .int "MOST_PIECES" 5000, .glo "_law_run", .glo "wrong_line", .free "enumerate", .glo "check_state", .mkr "Machine", .int "MOST_LINES" 1200, .int "MOST_COUNTERS" 40, .glo "next_state", .str "STUCK" "stuck", .str "STOPPED" "stopped", .glo "round_of", .glo "_law_same", .glo "state_behind", .glo "BadNumber", .exc "BadNumber", .glo "state_at_end", .glo "_law_refused", .exm "BadNumber" "BadNumber" true, .glo "_law_pieces", .glo "law"]
abbrev RR : PySem.W.OpenRow := PySem.W.OpenLaw.row PySem.Challenge.rw_runsolved_k12_how_often_a_round_is_gone
abbrev hk : PySem.W.Hook := He.hookD 4 fa fn
def ob (s : PySem.W.SharedT) : He.AlD := He.obsDG 4 fa fn (HandSHeadRun.getT s)
theorem ob_eq (s : PySem.W.SharedT) : ob s = hk.obs s.abs := He.obsDG_eq (HandSHeadRun.getT_eq s)
def loose0 : List Str := ["RunError", "BadNumber", "BadMachine", "BadState", "is_whole", "MOST_LINES", "MOST_COUNTERS", "STOPPED", "STUCK", "is_line", "wrong_line", "Machine", "is_state", "check_state", "changed", "next_state", "STEP", "LEAP", "MOST_PIECES", "MOST_ROUND", "round_of", "grown", "times_for", "most_times", "leapt", "is_piece", "state_behind", "state_at_end", "_law_numbers", "_law_same"]
def loose1 : List Str := ["_law_step", "_law_run", "_law_loop", "_law_due", "_law_refused", "_law_pieces"]
def loose : List Str := loose0 ++ loose1
theorem run (w : World) : HandSHeadRun.RunEq RR (PySem.W.view RR.prog [41]) hk ob 3000 loose w := by
  intro os
  kernel_rfl
end K12
set_option Elab.async false
set_option linter.all false
set_option maxRecDepth 100000
set_option maxHeartbeats 0
namespace K12
open PySem PySem.Spec PyProof.Rows L2 Pu
theorem facts {P : Program} {w : World} {K : PySem.W.Frag} {h : Heap} {mg : Str → Option Value} {f : Addr} (X : K.In h) (G : h.Ns mainGlobals mg) (hfa : mg ("law" : Str) = some (.ref f)) (c : He.SaysD fa fn K) :
    ∃ fd : FuncData, (∀ (s : Shared) (v : Value), BindsTo s fd ⟨[v], []⟩ [("script", v)]) ∧ ∀ base : Heap, FnOk P w K mg base (L2.CX P w) 9 f fd ["script"] (spP K mg m_law) := by
  have base0 : Heap := h
  have e := hfa.symm.trans (He.glo_ok X G (c.fact 57 (f := .glo "law") rfl))
  cases e
  obtain ⟨fd_law0, F_law0⟩ := c.def_ 29 rfl
  refine ⟨fd_law0, fun s v => (FunD.bindsA (ps := ["script"]) F_law0 fun _ _ _ _ _ _ us hl => match us, hl with | [_], _ => rfl) s [v] rfl, fun base => ?_⟩
  obtain ⟨fd_is_whole, F_is_whole⟩ := c.def_ 0 rfl
  have B_is_whole := FunD.bindsN (ps := ["value"]) F_is_whole (fun _ _ _ _ _ _ us hl => match us, hl with | [_], _ => rfl)
  have D_is_whole := d_is_whole (P := P) (w := w) (base := base) (fun_of F_is_whole) B_is_whole (He.glo_ok X G (c.fact 0 (f := .glo "is_whole") rfl)) (He.free_ok X G (c.fact 1 (f := .free "isinstance") rfl)) (He.free_ok X G (c.fact 2 (f := .free "int") rfl)) (He.free_ok X G (c.fact 3 (f := .free "bool") rfl))
  obtain ⟨fd_Machine_counters, F_Machine_counters⟩ := c.def_ 1 rfl
  have B_Machine_counters := FunD.bindsN (ps := ["self"]) F_Machine_counters (fun _ _ _ _ _ _ us hl => match us, hl with | [_], _ => rfl)
  have D_Machine_counters := d_Machine_counters (P := P) (w := w) (base := base) (fun_of F_Machine_counters) B_Machine_counters (He.meth_ok (c.fact 4 (f := .meth "Machine" "counters") rfl)) (cls_n X G (c.fact 5 (f := .glo "Machine") rfl) (c.fact 6 (f := .cls "Machine") rfl)) (He.noat_ok (c.fact 7 (f := .noat "Machine" "_counters") rfl))
  obtain ⟨fd_Machine_lines, F_Machine_lines⟩ := c.def_ 2 rfl
  have B_Machine_lines := FunD.bindsN (ps := ["self"]) F_Machine_lines (fun _ _ _ _ _ _ us hl => match us, hl with | [_], _ => rfl)
  have D_Machine_lines := d_Machine_lines (P := P) (w := w) (base := base) (fun_of F_Machine_lines) B_Machine_lines (He.meth_ok (c.fact 8 (f := .meth "Machine" "lines") rfl)) (He.free_ok X G (c.fact 9 (f := .free "list") rfl)) (cls_n X G (c.fact 5 (f := .glo "Machine") rfl) (c.fact 6 (f := .cls "Machine") rfl)) (He.noat_ok (c.fact 10 (f := .noat "Machine" "_lines") rfl))
  obtain ⟨fd_Machine_line, F_Machine_line⟩ := c.def_ 3 rfl
  have B_Machine_line := FunD.bindsN (ps := ["self", "index"]) F_Machine_line (fun _ _ _ _ _ _ us hl => match us, hl with | [_, _], _ => rfl)
  have D_Machine_line := d_Machine_line (P := P) (w := w) (base := base) (fun_of F_Machine_line) B_Machine_line (He.meth_ok (c.fact 11 (f := .meth "Machine" "line") rfl)) (cls_n X G (c.fact 5 (f := .glo "Machine") rfl) (c.fact 6 (f := .cls "Machine") rfl)) (He.noat_ok (c.fact 10 (f := .noat "Machine" "_lines") rfl))
  obtain ⟨fd_Machine_count, F_Machine_count⟩ := c.def_ 4 rfl
  have B_Machine_count := FunD.bindsN (ps := ["self"]) F_Machine_count (fun _ _ _ _ _ _ us hl => match us, hl with | [_], _ => rfl)
  have D_Machine_count := d_Machine_count (P := P) (w := w) (base := base) (fun_of F_Machine_count) B_Machine_count (He.meth_ok (c.fact 12 (f := .meth "Machine" "count") rfl)) (He.free_ok X G (c.fact 13 (f := .free "len") rfl)) (cls_n X G (c.fact 5 (f := .glo "Machine") rfl) (c.fact 6 (f := .cls "Machine") rfl)) (He.noat_ok (c.fact 10 (f := .noat "Machine" "_lines") rfl))
  obtain ⟨fd_Machine_last, F_Machine_last⟩ := c.def_ 5 rfl
  have B_Machine_last := FunD.bindsN (ps := ["self"]) F_Machine_last (fun _ _ _ _ _ _ us hl => match us, hl with | [_], _ => rfl)
  have D_Machine_last := d_Machine_last (P := P) (w := w) (base := base) (fun_of F_Machine_last) B_Machine_last (He.meth_ok (c.fact 14 (f := .meth "Machine" "last") rfl)) (He.free_ok X G (c.fact 13 (f := .free "len") rfl)) (cls_n X G (c.fact 5 (f := .glo "Machine") rfl) (c.fact 6 (f := .cls "Machine") rfl)) (He.noat_ok (c.fact 10 (f := .noat "Machine" "_lines") rfl))
  obtain ⟨fd_changed, F_changed⟩ := c.def_ 6 rfl
  have B_changed := FunD.bindsN (ps := ["numbers", "counter", "by"]) F_changed (fun _ _ _ _ _ _ us hl => match us, hl with | [_, _, _], _ => rfl)
  have D_changed := d_changed (P := P) (w := w) (base := base) (fun_of F_changed) B_changed (He.glo_ok X G (c.fact 15 (f := .glo "changed") rfl))
  obtain ⟨fd_grown, F_grown⟩ := c.def_ 7 rfl
  have B_grown := FunD.bindsN (ps := ["states"]) F_grown (fun _ _ _ _ _ _ us hl => match us, hl with | [_], _ => rfl)
  have D_grown := d_grown (P := P) (w := w) (base := base) (fun_of F_grown) B_grown (He.glo_ok X G (c.fact 16 (f := .glo "grown") rfl)) (He.free_ok X G (c.fact 17 (f := .free "zip") rfl)) (He.free_ok X G (c.fact 18 (f := .free "tuple") rfl))
  obtain ⟨fd_times_for, F_times_for⟩ := c.def_ 8 rfl
  have B_times_for := FunD.bindsN (ps := ["line", "numbers", "more"]) F_times_for (fun _ _ _ _ _ _ us hl => match us, hl with | [_, _, _], _ => rfl)
  have D_times_for := d_times_for (P := P) (w := w) (base := base) (fun_of F_times_for) B_times_for (He.glo_ok X G (c.fact 19 (f := .glo "times_for") rfl))
  obtain ⟨fd_leapt, F_leapt⟩ := c.def_ 9 rfl
  have B_leapt := FunD.bindsN (ps := ["state", "more", "times"]) F_leapt (fun _ _ _ _ _ _ us hl => match us, hl with | [_, _, _], _ => rfl)
  have D_leapt := d_leapt (P := P) (w := w) (base := base) (fun_of F_leapt) B_leapt (He.glo_ok X G (c.fact 20 (f := .glo "leapt") rfl)) (He.free_ok X G (c.fact 17 (f := .free "zip") rfl)) (He.free_ok X G (c.fact 18 (f := .free "tuple") rfl))
  obtain ⟨fd_law_numbers, F_law_numbers⟩ := c.def_ 10 rfl
  have B_law_numbers := FunD.bindsN (ps := ["script", "at", "count"]) F_law_numbers (fun _ _ _ _ _ _ us hl => match us, hl with | [_, _, _], _ => rfl)
  have D_law_numbers := d_law_numbers (P := P) (w := w) (base := base) (fun_of F_law_numbers) B_law_numbers (He.glo_ok X G (c.fact 21 (f := .glo "_law_numbers") rfl)) (He.free_ok X G (c.fact 22 (f := .free "range") rfl)) (He.free_ok X G (c.fact 13 (f := .free "len") rfl)) (He.free_ok X G (c.fact 2 (f := .free "int") rfl))
  obtain ⟨fd_law_step, F_law_step⟩ := c.def_ 11 rfl
  have B_law_step := FunD.bindsN (ps := ["lines", "state"]) F_law_step (fun _ _ _ _ _ _ us hl => match us, hl with | [_, _], _ => rfl)
  have D_law_step := d_law_step (P := P) (w := w) (base := base) (fun_of F_law_step) B_law_step (He.glo_ok X G (c.fact 23 (f := .glo "_law_step") rfl)) (He.free_ok X G (c.fact 2 (f := .free "int") rfl))
  obtain ⟨fd_law_loop, F_law_loop⟩ := c.def_ 12 rfl
  have B_law_loop := FunD.bindsN (ps := ["numbers", "wide", "endless"]) F_law_loop (fun _ _ _ _ _ _ us hl => match us, hl with | [_, _, _], _ => rfl)
  have D_law_loop := d_law_loop (P := P) (w := w) (base := base) (fun_of F_law_loop) B_law_loop (He.glo_ok X G (c.fact 24 (f := .glo "_law_loop") rfl)) (He.free_ok X G (c.fact 13 (f := .free "len") rfl)) (He.free_ok X G (c.fact 2 (f := .free "int") rfl)) (He.free_ok X G (c.fact 22 (f := .free "range") rfl))
  obtain ⟨fd_law_due, F_law_due⟩ := c.def_ 13 rfl
  have B_law_due := FunD.bindsN (ps := ["lines", "states"]) F_law_due (fun _ _ _ _ _ _ us hl => match us, hl with | [_, _], _ => rfl)
  have D_law_due := d_law_due (P := P) (w := w) (base := base) (fun_of F_law_due) B_law_due (He.glo_ok X G (c.fact 25 (f := .glo "_law_due") rfl)) (He.free_ok X G (c.fact 13 (f := .free "len") rfl))
  obtain ⟨fd_is_line, F_is_line⟩ := c.def_ 14 rfl
  have B_is_line := FunD.bindsN (ps := ["value", "counters", "lines"]) F_is_line (fun _ _ _ _ _ _ us hl => match us, hl with | [_, _, _], _ => rfl)
  have D_is_line := d_is_line (P := P) (w := w) (base := base) (fun_of F_is_line) B_is_line (He.glo_ok X G (c.fact 26 (f := .glo "is_line") rfl)) (He.free_ok X G (c.fact 13 (f := .free "len") rfl)) (He.free_ok X G (c.fact 27 (f := .free "max") rfl)) D_is_whole (He.free_ok X G (c.fact 28 (f := .free "all") rfl)) (He.free_ok X G (c.fact 1 (f := .free "isinstance") rfl)) (He.free_ok X G (c.fact 18 (f := .free "tuple") rfl)) (He.free_ok X G (c.fact 29 (f := .free "str") rfl))
  obtain ⟨fd_is_state, F_is_state⟩ := c.def_ 15 rfl
  have B_is_state := FunD.bindsN (ps := ["machine", "value"]) F_is_state (fun _ _ _ _ _ _ us hl => match us, hl with | [_, _], _ => rfl)
  have D_is_state := d_is_state (P := P) (w := w) (base := base) (fun_of F_is_state) B_is_state (He.glo_ok X G (c.fact 30 (f := .glo "is_state") rfl)) (He.free_ok X G (c.fact 1 (f := .free "isinstance") rfl)) (He.free_ok X G (c.fact 18 (f := .free "tuple") rfl)) (He.free_ok X G (c.fact 13 (f := .free "len") rfl)) D_Machine_counters D_is_whole (He.free_ok X G (c.fact 28 (f := .free "all") rfl)) D_Machine_count
  obtain ⟨fd_most_times, F_most_times⟩ := c.def_ 16 rfl
  have B_most_times := FunD.bindsN (ps := ["machine", "states"]) F_most_times (fun _ _ _ _ _ _ us hl => match us, hl with | [_, _], _ => rfl)
  have D_most_times := d_most_times (P := P) (w := w) (base := base) (fun_of F_most_times) B_most_times (He.glo_ok X G (c.fact 31 (f := .glo "most_times") rfl)) (He.free_ok X G (c.fact 32 (f := .free "min") rfl)) D_Machine_line D_times_for D_grown (He.free_ok X G (c.fact 13 (f := .free "len") rfl))
  obtain ⟨fd_is_piece, F_is_piece⟩ := c.def_ 17 rfl
  have B_is_piece := FunD.bindsN (ps := ["value"]) F_is_piece (fun _ _ _ _ _ _ us hl => match us, hl with | [_], _ => rfl)
  have D_is_piece := d_is_piece (P := P) (w := w) (base := base) (fun_of F_is_piece) B_is_piece (He.glo_ok X G (c.fact 33 (f := .glo "is_piece") rfl)) (top_str X G (c.fact 34 (f := .str "LEAP" "leap") rfl)) (top_int X G (c.fact 35 (f := .int "MOST_ROUND" 400) rfl)) (He.free_ok X G (c.fact 13 (f := .free "len") rfl)) (top_str X G (c.fact 36 (f := .str "STEP" "step") rfl)) (top_int X G (c.fact 37 (f := .int "MOST_PIECES" 5000) rfl)) (He.free_ok X G (c.fact 32 (f := .free "min") rfl)) (He.free_ok X G (c.fact 1 (f := .free "isinstance") rfl)) (He.free_ok X G (c.fact 18 (f := .free "tuple") rfl)) D_is_whole (He.free_ok X G (c.fact 28 (f := .free "all") rfl))
  obtain ⟨fd_law_run, F_law_run⟩ := c.def_ 18 rfl
  have B_law_run := FunD.bindsN (ps := ["lines", "state", "limit"]) F_law_run (fun _ _ _ _ _ _ us hl => match us, hl with | [_, _, _], _ => rfl)
  have D_law_run := d_law_run (P := P) (w := w) (base := base) (fun_of F_law_run) B_law_run (He.glo_ok X G (c.fact 38 (f := .glo "_law_run") rfl)) (He.free_ok X G (c.fact 1 (f := .free "isinstance") rfl)) (He.free_ok X G (c.fact 29 (f := .free "str") rfl)) D_law_step (He.free_ok X G (c.fact 22 (f := .free "range") rfl))
  obtain ⟨fd_wrong_line, F_wrong_line⟩ := c.def_ 19 rfl
  have B_wrong_line := FunD.bindsN (ps := ["counters", "lines"]) F_wrong_line (fun _ _ _ _ _ _ us hl => match us, hl with | [_, _], _ => rfl)
  have D_wrong_line := d_wrong_line (P := P) (w := w) (base := base) (fun_of F_wrong_line) B_wrong_line (He.glo_ok X G (c.fact 39 (f := .glo "wrong_line") rfl)) (He.free_ok X G (c.fact 40 (f := .free "enumerate") rfl)) (He.free_ok X G (c.fact 13 (f := .free "len") rfl)) D_is_line
  obtain ⟨fd_check_state, F_check_state⟩ := c.def_ 20 rfl
  have B_check_state := FunD.bindsN (ps := ["machine", "value"]) F_check_state (fun _ _ _ _ _ _ us hl => match us, hl with | [_, _], _ => rfl)
  have D_check_state := d_check_state (P := P) (w := w) (base := base) (fun_of F_check_state) B_check_state (He.glo_ok X G (c.fact 41 (f := .glo "check_state") rfl)) D_is_state
  obtain ⟨fd_Machine_init, F_Machine_init⟩ := c.def_ 21 rfl
  have B_Machine_init := FunD.bindsN (ps := ["self", "counters", "lines"]) F_Machine_init (fun _ _ _ _ _ _ us hl => match us, hl with | [_, _, _], _ => rfl)
  have D_Machine_init := d_Machine_init (P := P) (w := w) (base := base) (fun_of F_Machine_init) B_Machine_init (He.mkr_ok (c.fact 42 (f := .mkr "Machine") rfl)) (He.free_ok X G (c.fact 9 (f := .free "list") rfl)) D_wrong_line (He.free_ok X G (c.fact 1 (f := .free "isinstance") rfl)) (He.free_ok X G (c.fact 13 (f := .free "len") rfl)) (top_int X G (c.fact 43 (f := .int "MOST_LINES" 1200) rfl)) D_is_whole (top_int X G (c.fact 44 (f := .int "MOST_COUNTERS" 40) rfl)) (cls_n X G (c.fact 5 (f := .glo "Machine") rfl) (c.fact 6 (f := .cls "Machine") rfl)) (He.noat_ok (c.fact 10 (f := .noat "Machine" "_lines") rfl)) (He.noat_ok (c.fact 7 (f := .noat "Machine" "_counters") rfl))
  obtain ⟨fd_next_state, F_next_state⟩ := c.def_ 22 rfl
  have B_next_state := FunD.bindsN (ps := ["machine", "state"]) F_next_state (fun _ _ _ _ _ _ us hl => match us, hl with | [_, _], _ => rfl)
  have D_next_state := d_next_state (P := P) (w := w) (base := base) (fun_of F_next_state) B_next_state (He.glo_ok X G (c.fact 45 (f := .glo "next_state") rfl)) (top_str X G (c.fact 46 (f := .str "STUCK" "stuck") rfl)) D_changed (top_str X G (c.fact 47 (f := .str "STOPPED" "stopped") rfl)) D_Machine_line D_check_state
  obtain ⟨fd_round_of, F_round_of⟩ := c.def_ 23 rfl
  have B_round_of := FunD.bindsN (ps := ["machine", "state", "length"]) F_round_of (fun _ _ _ _ _ _ us hl => match us, hl with | [_, _, _], _ => rfl)
  have D_round_of := d_round_of (P := P) (w := w) (base := base) (fun_of F_round_of) B_round_of (He.glo_ok X G (c.fact 48 (f := .glo "round_of") rfl)) (He.free_ok X G (c.fact 22 (f := .free "range") rfl)) (top_str X G (c.fact 46 (f := .str "STUCK" "stuck") rfl)) (top_str X G (c.fact 47 (f := .str "STOPPED" "stopped") rfl)) D_next_state
  obtain ⟨fd_law_same, F_law_same⟩ := c.def_ 24 rfl
  have B_law_same := FunD.bindsN (ps := ["told", "due"]) F_law_same (fun _ _ _ _ _ _ us hl => match us, hl with | [_, _], _ => rfl)
  have D_law_same := d_law_same (P := P) (w := w) (base := base) (fun_of F_law_same) B_law_same (He.glo_ok X G (c.fact 49 (f := .glo "_law_same") rfl)) (He.free_ok X G (c.fact 13 (f := .free "len") rfl)) (He.free_ok X G (c.fact 22 (f := .free "range") rfl)) (He.free_ok X G (c.fact 1 (f := .free "isinstance") rfl)) (He.free_ok X G (c.fact 9 (f := .free "list") rfl)) (He.free_ok X G (c.fact 18 (f := .free "tuple") rfl)) (He.free_ok X G (c.fact 29 (f := .free "str") rfl)) (He.free_ok X G (c.fact 2 (f := .free "int") rfl)) (He.free_ok X G (c.fact 3 (f := .free "bool") rfl)) 4
  obtain ⟨fd_state_behind, F_state_behind⟩ := c.def_ 25 rfl
  have B_state_behind := FunD.bindsN (ps := ["machine", "state", "piece"]) F_state_behind (fun _ _ _ _ _ _ us hl => match us, hl with | [_, _, _], _ => rfl)
  have D_state_behind := d_state_behind (P := P) (w := w) (base := base) (fun_of F_state_behind) B_state_behind (He.glo_ok X G (c.fact 50 (f := .glo "state_behind") rfl)) D_grown D_leapt D_most_times D_round_of (top_str X G (c.fact 36 (f := .str "STEP" "step") rfl)) D_is_piece (exc_n X G (c.fact 51 (f := .glo "BadNumber") rfl) (c.fact 52 (f := .exc "BadNumber") rfl)) D_check_state
  obtain ⟨fd_state_at_end, F_state_at_end⟩ := c.def_ 26 rfl
  have B_state_at_end := FunD.bindsN (ps := ["machine", "start", "pieces"]) F_state_at_end (fun _ _ _ _ _ _ us hl => match us, hl with | [_, _, _], _ => rfl)
  have D_state_at_end := d_state_at_end (P := P) (w := w) (base := base) (fun_of F_state_at_end) B_state_at_end (He.glo_ok X G (c.fact 53 (f := .glo "state_at_end") rfl)) (top_str X G (c.fact 34 (f := .str "LEAP" "leap") rfl)) D_state_behind (He.free_ok X G (c.fact 1 (f := .free "isinstance") rfl)) (He.free_ok X G (c.fact 9 (f := .free "list") rfl)) (He.free_ok X G (c.fact 13 (f := .free "len") rfl)) (top_int X G (c.fact 37 (f := .int "MOST_PIECES" 5000) rfl)) (exc_n X G (c.fact 51 (f := .glo "BadNumber") rfl) (c.fact 52 (f := .exc "BadNumber") rfl)) D_check_state
  obtain ⟨fd_law_refused, F_law_refused⟩ := c.def_ 27 rfl
  have B_law_refused := FunD.bindsN (ps := ["machine", "state", "piece"]) F_law_refused (fun _ _ _ _ _ _ us hl => match us, hl with | [_, _, _], _ => rfl)
  have D_law_refused := d_law_refused (P := P) (w := w) (base := base) (fun_of F_law_refused) B_law_refused (He.glo_ok X G (c.fact 54 (f := .glo "_law_refused") rfl)) D_state_behind (He.glo_ok X G (c.fact 51 (f := .glo "BadNumber") rfl)) (ct_cons (He.glo_ok X G (c.fact 51 (f := .glo "BadNumber") rfl)) (He.exm_ok (c.fact 55 (f := .exm "BadNumber" "BadNumber" true) rfl)) ct_nil)
  obtain ⟨fd_law_pieces, F_law_pieces⟩ := c.def_ 28 rfl
  have B_law_pieces := FunD.bindsN (ps := ["machine", "states", "due", "numbers"]) F_law_pieces (fun _ _ _ _ _ _ us hl => match us, hl with | [_, _, _, _], _ => rfl)
  have D_law_pieces := d_law_pieces (P := P) (w := w) (base := base) (fun_of F_law_pieces) B_law_pieces (He.glo_ok X G (c.fact 56 (f := .glo "_law_pieces") rfl)) D_state_at_end D_law_same D_state_behind (He.free_ok X G (c.fact 13 (f := .free "len") rfl)) (He.free_ok X G (c.fact 22 (f := .free "range") rfl)) (He.free_ok X G (c.fact 18 (f := .free "tuple") rfl)) D_law_refused
  have F_law := F_law0
  have B_law := FunD.bindsN (ps := ["script"]) F_law (fun _ _ _ _ _ _ us hl => match us, hl with | [_], _ => rfl)
  have D_law := d_law (P := P) (w := w) (base := base) (fun_of F_law) B_law D_law_pieces D_law_due (He.free_ok X G (c.fact 9 (f := .free "list") rfl)) D_most_times D_law_same (He.free_ok X G (c.fact 13 (f := .free "len") rfl)) (He.free_ok X G (c.fact 18 (f := .free "tuple") rfl)) D_law_run (He.free_ok X G (c.fact 2 (f := .free "int") rfl)) (He.free_ok X G (c.fact 22 (f := .free "range") rfl)) D_Machine_init D_law_loop D_law_numbers
  exact D_law
end K12
set_option Elab.async false
set_option linter.all false
set_option maxRecDepth 100000
set_option maxHeartbeats 1000000
namespace K12
open PySem PySem.Spec PyProof.Rows L2 Pu
/-! ### machines, as they are -/
inductive Li where
  | stop
  | go (t : Nat)
  | up (j : Fin 3) (t : Nat)
  | down (j : Fin 3) (t : Nat)
  | zero (j : Fin 3) (t u : Nat)
def Li.p : Li → PV
  | .stop => .tup [.str "stop"]
  | .go t => .tup [.str "go", .int t]
  | .up j t => .tup [.str "up", .int (j.val : Nat), .int t]
  | .down j t => .tup [.str "down", .int (j.val : Nat), .int t]
  | .zero j t u => .tup [.str "zero", .int (j.val : Nat), .int t, .int u]
structure St where
  i : Nat
  a : Nat
  b : Nat
  c : Nat
def St.nums (s : St) : PV := .tup [.int s.a, .int s.b, .int s.c]
def St.p (s : St) : PV := .tup [.int s.i, s.nums]
def St.get (s : St) (j : Fin 3) : Nat := match j with
  | 0 => s.a | 1 => s.b | 2 => s.c
def St.put (s : St) (j : Fin 3) (n t : Nat) : St := match j with
  | 0 => ⟨t, n, s.b, s.c⟩ | 1 => ⟨t, s.a, n, s.c⟩ | 2 => ⟨t, s.a, s.b, n⟩
inductive Re where
  | stopped
  | stuck
  | st (s : St)
def Re.p : Re → PV
  | .stopped => .str "stopped"
  | .stuck => .str "stuck"
  | .st s => s.p
def Li.act (l : Li) (s : St) : Re := match l with
  | .stop => .stopped
  | .go t => .st { s with i := t }
  | .up j t => .st (s.put j (s.get j + 1) t)
  | .down j t => if s.get j = 0 then .stuck else .st (s.put j (s.get j - 1) t)
  | .zero j t u => .st { s with i := if s.get j = 0 then t else u }
abbrev linesP (ls : List Li) : PV := .lst (ls.map Li.p)
abbrev machP (ls : List Li) : PV := .obj "Machine" [("_counters", .int 3), ("_lines", linesP ls)]
@[simp] theorem atI_nat {α : Type} (xs : List α) (i : Nat) : atI xs (i : Int) = xs[i]? := by
  unfold atI ixN
  rw [if_pos (by omega)]
  by_cases h : i < xs.length
  · rw [if_pos (by omega)]; simp
  · rw [if_neg (by omega)]; simp; omega
@[simp] theorem atI_0 {α : Type} (xs : List α) : atI xs 0 = xs[0]? := atI_nat xs 0
@[simp] theorem atI_1 {α : Type} (xs : List α) : atI xs 1 = xs[1]? := atI_nat xs 1
@[simp] theorem atI_2 {α : Type} (xs : List α) : atI xs 2 = xs[2]? := atI_nat xs 2
@[simp] theorem atI_3 {α : Type} (xs : List α) : atI xs 3 = xs[3]? := atI_nat xs 3
@[simp] theorem atI_neg1 {α : Type} (xs : List α) : atI xs (-1) = xs.getLast? := by
  unfold atI ixN
  rw [if_neg (by omega), List.getLast?_eq_getElem?]
  by_cases h : xs.length = 0
  · rw [if_neg (by omega)]
    rw [List.length_eq_zero_iff] at h
    simp [h]
  · rw [if_pos (by omega)]
    simp
    congr 1
    omega
theorem sizeL : sizeLine = 16777216 := by decide
theorem is_whole_int (n : Int) : m_is_whole [.int n] = .ok (.bl (decide (0 ≤ n))) := by
  simp [m_is_whole, b_is_whole, mOf_def, tyName, isiT, tyKnown]
theorem line_get (ls : List Li) (i : Nat) : m_Machine_line [machP ls, .int i] = (match ls[i]? with | some l => .ok l.p | none => .bad) := by
  simp [m_Machine_line, b_Machine_line, mOf_def, List.lookup]
  cases ls[i]? <;> simp
theorem count_get (ls : List Li) : m_Machine_count [machP ls] = .ok (.int ls.length) := by
  simp [m_Machine_count, b_Machine_count, mOf_def, List.lookup]
theorem counters_get (ls : List Li) : m_Machine_counters [machP ls] = .ok (.int 3) := by
  simp [m_Machine_counters, b_Machine_counters, mOf_def, List.lookup]
theorem nat_nn (n : Nat) : (0 : Int) ≤ (n : Int) := Int.natCast_nonneg n
theorem is_state_ok (ls : List Li) (s : St) (h : s.i < ls.length) : m_is_state [machP ls, s.p] = .ok (.bl true) := by
  have h' : ¬ ((ls.length : Int) ≤ s.i) := by omega
  simp [m_is_state, b_is_state, mOf_def, St.p, St.nums, tyName, isiT, tyKnown, is_whole_int, count_get, counters_get, List.lookup, nat_nn, h', pall, bools, sizeL]
theorem check_ok (ls : List Li) (s : St) (h : s.i < ls.length) : m_check_state [machP ls, s.p] = .ok .non := by
  simp [m_check_state, b_check_state, mOf_def, is_state_ok ls s h]
theorem changed0 (x y z d : Int) : m_changed [.tup [.int x, .int y, .int z], .int 0, .int d] = .ok (.tup [.int (x + d), .int y, .int z]) := by
  simp [m_changed, b_changed, mOf_def, padd, paddF, cutP, HT.sIx, sizeL]
theorem changed1 (x y z d : Int) : m_changed [.tup [.int x, .int y, .int z], .int 1, .int d] = .ok (.tup [.int x, .int (y + d), .int z]) := by
  simp [m_changed, b_changed, mOf_def, padd, paddF, cutP, HT.sIx, sizeL]
theorem changed2 (x y z d : Int) : m_changed [.tup [.int x, .int y, .int z], .int 2, .int d] = .ok (.tup [.int x, .int y, .int (z + d)]) := by
  simp [m_changed, b_changed, mOf_def, padd, paddF, cutP, HT.sIx, sizeL]
theorem pred_int {n : Nat} (h : ¬ n = 0) : ((n - 1 : Nat) : Int) = (n : Int) + -1 := by omega
theorem next_ok (ls : List Li) (s : St) (l : Li) (h : ls[s.i]? = some l) : m_next_state [machP ls, s.p] = .ok (l.act s).p := by
  have hi : s.i < ls.length := (List.getElem?_eq_some_iff.mp h).1
  have hc := check_ok ls s hi
  simp only [St.p, St.nums] at hc
  cases l with
  | stop => simp [m_next_state, b_next_state, mOf_def, hc, St.p, St.nums, line_get, h, List.lookup, Li.p, Li.act, Re.p]
  | go t => simp [m_next_state, b_next_state, mOf_def, hc, St.p, St.nums, line_get, h, List.lookup, Li.p, Li.act, Re.p, sizeL]
  | up j t =>
    rcases j with ⟨_ | _ | _ | j, hj⟩
    · simp [m_next_state, b_next_state, mOf_def, hc, St.p, St.nums, line_get, h, List.lookup, Li.p, Li.act, Re.p, sizeL, changed0, St.put, St.get]
    · simp [m_next_state, b_next_state, mOf_def, hc, St.p, St.nums, line_get, h, List.lookup, Li.p, Li.act, Re.p, sizeL, changed1, St.put, St.get]
    · simp [m_next_state, b_next_state, mOf_def, hc, St.p, St.nums, line_get, h, List.lookup, Li.p, Li.act, Re.p, sizeL, changed2, St.put, St.get]
    · omega
  | zero j t u =>
    rcases j with ⟨_ | _ | _ | j, hj⟩
    · by_cases hz : s.a = 0 <;> (try simp [hz] at hc) <;> simp [m_next_state, b_next_state, mOf_def, hc, St.p, St.nums, line_get, h, List.lookup, Li.p, Li.act, Re.p, sizeL, St.put, St.get, hz]
    · by_cases hz : s.b = 0 <;> (try simp [hz] at hc) <;> simp [m_next_state, b_next_state, mOf_def, hc, St.p, St.nums, line_get, h, List.lookup, Li.p, Li.act, Re.p, sizeL, St.put, St.get, hz]
    · by_cases hz : s.c = 0 <;> (try simp [hz] at hc) <;> simp [m_next_state, b_next_state, mOf_def, hc, St.p, St.nums, line_get, h, List.lookup, Li.p, Li.act, Re.p, sizeL, St.put, St.get, hz]
    · omega
  | down j t =>
    rcases j with ⟨_ | _ | _ | j, hj⟩
    · by_cases hz : s.a = 0 <;> (try simp [hz] at hc) <;> simp [m_next_state, b_next_state, mOf_def, hc, St.p, St.nums, line_get, h, List.lookup, Li.p, Li.act, Re.p, sizeL, St.put, St.get, hz, changed0, pred_int]
    · by_cases hz : s.b = 0 <;> (try simp [hz] at hc) <;> simp [m_next_state, b_next_state, mOf_def, hc, St.p, St.nums, line_get, h, List.lookup, Li.p, Li.act, Re.p, sizeL, St.put, St.get, hz, changed1, pred_int]
    · by_cases hz : s.c = 0 <;> (try simp [hz] at hc) <;> simp [m_next_state, b_next_state, mOf_def, hc, St.p, St.nums, line_get, h, List.lookup, Li.p, Li.act, Re.p, sizeL, St.put, St.get, hz, changed2, pred_int]
    · omega
theorem step_ok (ls : List Li) (s : St) (l : Li) (h : ls[s.i]? = some l) : m_law_step [linesP ls, s.p] = .ok (l.act s).p := by
  cases l with
  | stop => simp [m_law_step, b_law_step, mOf_def, St.p, St.nums, h, List.lookup, Li.p, Li.act, Re.p]
  | go t => simp [m_law_step, b_law_step, mOf_def, St.p, St.nums, h, List.lookup, Li.p, Li.act, Re.p, sizeL]
  | up j t =>
    rcases j with ⟨_ | _ | _ | j, hj⟩
    · simp [m_law_step, b_law_step, mOf_def, St.p, St.nums, h, Li.p, Li.act, Re.p, sizeL, St.put, St.get, padd, paddF, pmul, pmulF, mulOk, CMul, cutP, HT.sIx]
    · simp [m_law_step, b_law_step, mOf_def, St.p, St.nums, h, Li.p, Li.act, Re.p, sizeL, St.put, St.get, padd, paddF, pmul, pmulF, mulOk, CMul, cutP, HT.sIx]
    · simp [m_law_step, b_law_step, mOf_def, St.p, St.nums, h, Li.p, Li.act, Re.p, sizeL, St.put, St.get, padd, paddF, pmul, pmulF, mulOk, CMul, cutP, HT.sIx]
    · omega
  | zero j t u =>
    rcases j with ⟨_ | _ | _ | j, hj⟩
    · by_cases hz : s.a = 0 <;> simp [m_law_step, b_law_step, mOf_def, St.p, St.nums, h, Li.p, Li.act, Re.p, sizeL, St.put, St.get, hz, Nat.pos_of_ne_zero]
    · by_cases hz : s.b = 0 <;> simp [m_law_step, b_law_step, mOf_def, St.p, St.nums, h, Li.p, Li.act, Re.p, sizeL, St.put, St.get, hz, Nat.pos_of_ne_zero]
    · by_cases hz : s.c = 0 <;> simp [m_law_step, b_law_step, mOf_def, St.p, St.nums, h, Li.p, Li.act, Re.p, sizeL, St.put, St.get, hz, Nat.pos_of_ne_zero]
    · omega
  | down j t =>
    rcases j with ⟨_ | _ | _ | j, hj⟩
    · by_cases hz : s.a = 0 <;> simp [m_law_step, b_law_step, mOf_def, St.p, St.nums, h, Li.p, Li.act, Re.p, sizeL, St.put, St.get, padd, paddF, pmul, pmulF, mulOk, CMul, cutP, HT.sIx, hz, pred_int] <;> omega
    · by_cases hz : s.b = 0 <;> simp [m_law_step, b_law_step, mOf_def, St.p, St.nums, h, Li.p, Li.act, Re.p, sizeL, St.put, St.get, padd, paddF, pmul, pmulF, mulOk, CMul, cutP, HT.sIx, hz, pred_int] <;> omega
    · by_cases hz : s.c = 0 <;> simp [m_law_step, b_law_step, mOf_def, St.p, St.nums, h, Li.p, Li.act, Re.p, sizeL, St.put, St.get, padd, paddF, pmul, pmulF, mulOk, CMul, cutP, HT.sIx, hz, pred_int] <;> omega
    · omega
end K12
set_option Elab.async false
set_option linter.all false
set_option maxRecDepth 100000
set_option maxHeartbeats 1000000
namespace K12
open PySem PySem.Spec PyProof.Rows L2 Pu
def Li.ok (n : Nat) : Li → Prop
  | .stop => True
  | .go t => t < n
  | .up _ t => t < n
  | .down _ t => t < n
  | .zero _ t u => t < n ∧ u < n
def Good (ls : List Li) : Prop := ∀ l ∈ ls, l.ok ls.length
theorem put_i (s : St) (j : Fin 3) (n t : Nat) : (s.put j n t).i = t := by
  rcases j with ⟨_ | _ | _ | j, hj⟩ <;> first | rfl | omega
theorem act_i {n : Nat} {l : Li} {s s' : St} (h : l.ok n) (e : l.act s = .st s') : s'.i < n := by
  cases l with
  | stop => cases e
  | go t => cases e; exact h
  | up j t => cases e; rw [put_i]; exact h
  | down j t =>
    simp only [Li.act] at e
    split at e
    · cases e
    · cases e; rw [put_i]; exact h
  | zero j t u =>
    cases e
    show (if _ then t else u) < n
    split
    · exact h.1
    · exact h.2
def nxt (ls : List Li) (s : St) : Re := match ls[s.i]? with
  | some l => l.act s
  | none => .stopped
theorem nxt_i {ls : List Li} (g : Good ls) {s s' : St} (e : nxt ls s = .st s') : s'.i < ls.length := by
  unfold nxt at e
  cases h : ls[s.i]? with
  | none => rw [h] at e; cases e
  | some l => rw [h] at e; exact act_i (g l (List.mem_of_getElem? h)) e
theorem next_nxt {ls : List Li} {s : St} (h : s.i < ls.length) : m_next_state [machP ls, s.p] = .ok (nxt ls s).p := by
  rw [next_ok ls s ls[s.i] (List.getElem?_eq_getElem h)]
  unfold nxt; rw [List.getElem?_eq_getElem h]
theorem step_nxt {ls : List Li} {s : St} (h : s.i < ls.length) : m_law_step [linesP ls, s.p] = .ok (nxt ls s).p := by
  rw [step_ok ls s ls[s.i] (List.getElem?_eq_getElem h)]
  unfold nxt; rw [List.getElem?_eq_getElem h]
def trail (ls : List Li) : Nat → St → List St
  | 0, _ => []
  | n + 1, s => match nxt ls s with
    | .st s' => s' :: trail ls n s'
    | _ => []
def stopw (ls : List Li) : Nat → St → Option String
  | 0, _ => none
  | n + 1, s => match nxt ls s with
    | .st s' => stopw ls n s'
    | .stopped => some "stopped"
    | .stuck => some "stuck"
theorem trail_len (ls : List Li) : ∀ n s, (trail ls n s).length ≤ n ∧ ((trail ls n s).length = n ↔ stopw ls n s = none)
  | 0, s => by simp [trail, stopw]
  | n + 1, s => by
    unfold trail stopw
    cases h : nxt ls s with
    | st s' => have := trail_len ls n s'; simp; omega
    | stopped => simp
    | stuck => simp
noncomputable abbrev bRun : Pu.Env → O := (sSeq (sSet 5 [] (inF (pFn m_law_step (pCons (pVar 0) (pCons (pIxO 3 (pUn pneg (pC (.int 1)))) pNil)))))
    (sSeq (sIf [] (pTr (pUn (pisi ["str"]) (pVar 5))) (sRet [3] (pTup (pCons (pVar 5) (pCons (pVar 3) pNil)))) sNx)
    (sApp 3 [] (pVar 5))))
@[simp] theorem isi_str (s : Str) : tyName (.str s) = some "str" := rfl
@[simp] theorem isi_tup (s) : tyName (.tup s) = some "tuple" := rfl
@[simp] theorem isi_int (s) : tyName (.int s) = some "int" := rfl
@[simp] theorem isi_non : tyName .non = some "NoneType" := rfl
@[simp] theorem isi_lst (s) : tyName (.lst s) = some "list" := rfl
@[simp] theorem tn_p (s : St) : tyName s.p = some "tuple" := rfl
@[simp] theorem at_p (s : St) : s.p.atom = false := rfl
theorem run_one {ls : List Li} {s : St} (h : s.i < ls.length) (pre : List St) (q1 q2 x4 x5 : Slot) (hl : pre.length + 1 < sizeLine) : bRun [.sh (linesP ls), q1, q2, .ow ((pre ++ [s]).map St.p), x4, x5] = (match nxt ls s with
    | .st s' => .nx [.sh (linesP ls), q1, q2, .ow ((pre ++ [s, s']).map St.p), x4, .sh s'.p]
    | .stopped => .rt (.tup [.str "stopped", .lst ((pre ++ [s]).map St.p)]) [.sh (linesP ls), q1, q2, .sh (.lst ((pre ++ [s]).map St.p)), x4, .sh (.str "stopped")]
    | .stuck => .rt (.tup [.str "stuck", .lst ((pre ++ [s]).map St.p)]) [.sh (linesP ls), q1, q2, .sh (.lst ((pre ++ [s]).map St.p)), x4, .sh (.str "stuck")]) := by
  have e := step_nxt h
  cases z : nxt ls s with
  | st s' =>
    rw [z] at e
    rw [sizeL] at hl
    simp [e, Re.p, tyKnown, isiT, sizeL, hl]
  | stopped => rw [z] at e; simp [e, Re.p, tyKnown, isiT, sizeL]
  | stuck => rw [z] at e; simp [e, Re.p, tyKnown, isiT, sizeL]
theorem run_loop {ls : List Li} (g : Good ls) (q1 q2 : Slot) : ∀ (ps : List PV) (s : St) (pre : List St) (x4 x5 : Slot), s.i < ls.length → pre.length + ps.length + 1 < sizeLine →
    (stopw ls ps.length s = none ∧ ∃ y4 y5, forL (gNam 4) bRun ps [.sh (linesP ls), q1, q2, .ow ((pre ++ [s]).map St.p), x4, x5] = .nx [.sh (linesP ls), q1, q2, .ow ((pre ++ s :: trail ls ps.length s).map St.p), y4, y5])
    ∨ ∃ w r, stopw ls ps.length s = some w ∧ forL (gNam 4) bRun ps [.sh (linesP ls), q1, q2, .ow ((pre ++ [s]).map St.p), x4, x5] = .rt (.tup [.str (Str.ofString w), .lst ((pre ++ s :: trail ls ps.length s).map St.p)]) r
  | [], s, pre, x4, x5, _, _ => .inl ⟨rfl, x4, x5, rfl⟩
  | p :: ps, s, pre, x4, x5, hi, hl => by
    rw [ev_forC]
    simp only [ev_gNam, List.set_cons_succ, List.set_cons_zero]
    rw [run_one hi pre q1 q2 _ _ (by simp at hl; omega)]
    simp only [List.length_cons, stopw, trail]
    cases z : nxt ls s with
    | st s' =>
      simp only
      have := run_loop g q1 q2 ps s' (pre ++ [s]) (.sh p) (.sh s'.p) (nxt_i g z) (by simp at hl ⊢; omega)
      simpa using this
    | stopped => exact .inr ⟨"stopped", _, rfl, rfl⟩
    | stuck => exact .inr ⟨"stuck", _, rfl, rfl⟩
theorem rng1_ok (n : Nat) (h : n < sizeLine) : rng1 [.int (n : Int)] = .ok (rangeP 0 n) := by
  rw [sizeL] at h
  have h1 : -(2 ^ 62) ≤ (n : Int) := Int.le_trans (by decide) (Int.natCast_nonneg n)
  have h2 : (n : Int) < 2 ^ 62 := Int.lt_trans (b := (16777216 : Int)) (by omega) (by decide)
  rw [rng1, whenP_pos ⟨h1, h2⟩, Int.toNat_natCast]
@[simp] theorem rangeP_len (lo : Int) (n : Nat) : (rangeP lo n).length = n := by simp [rangeP]
theorem getLast_i {ls : List Li} (g : Good ls) : ∀ (n : Nat) (s s' : St), s.i < ls.length → (s :: trail ls n s).getLast? = some s' → s'.i < ls.length
  | 0, s, s', h, e => by simp [trail] at e; subst e; exact h
  | n + 1, s, s', h, e => by
    unfold trail at e
    cases z : nxt ls s with
    | st s2 =>
      rw [z] at e
      exact getLast_i g n s2 s' (nxt_i g z) (by simpa using e)
    | stopped => rw [z] at e; simp at e; subst e; exact h
    | stuck => rw [z] at e; simp at e; subst e; exact h
end K12
set_option Elab.async false
set_option linter.all false
set_option maxRecDepth 100000
set_option maxHeartbeats 1000000
namespace K12
open PySem PySem.Spec PyProof.Rows L2 Pu
theorem law_run_ok {ls : List Li} (g : Good ls) (s : St) (hi : s.i < ls.length) (n : Nat) (hn : n + 2 < sizeLine) : ∃ w, m_law_run [linesP ls, s.p, .int n] = .ok (.tup [.str w, .lst ((s :: trail ls n s).map St.p)]) := by
  have h62 := rng1_ok n (by omega)
  rcases run_loop g (.sh s.p) (.sh (.int n)) (rangeP 0 n) s [] .un .un hi (by simp; omega) with ⟨_, y4, y5, h⟩ | ⟨w, r, _, h⟩
  · simp only [rangeP_len, List.nil_append] at h
    obtain ⟨s', e⟩ : ∃ s', (s :: trail ls n s).getLast? = some s' := by
      cases z : (s :: trail ls n s).getLast? with
      | none => simp at z
      | some s' => exact ⟨s', rfl⟩
    have hs := step_nxt (getLast_i g n s s' hi e)
    have e2 : ((s :: trail ls n s).map St.p).getLast? = some s'.p := by rw [List.getLast?_map, e]; rfl
    cases z : nxt ls s' with
    | st s2 =>
      rw [z] at hs
      refine ⟨"open", ?_⟩
      unfold m_law_run
      simp only [List.map_cons, List.map_nil] at h e2 ⊢
      simp [mOf_def, b_law_run, h62, h, e2, hs, Re.p, tyKnown, isiT, sizeL]
    | stopped =>
      rw [z] at hs
      refine ⟨"stopped", ?_⟩
      unfold m_law_run
      simp only [List.map_cons, List.map_nil] at h e2 ⊢
      simp [mOf_def, b_law_run, h62, h, e2, hs, Re.p, tyKnown, isiT, sizeL]
    | stuck =>
      rw [z] at hs
      refine ⟨"stuck", ?_⟩
      unfold m_law_run
      simp only [List.map_cons, List.map_nil] at h e2 ⊢
      simp [mOf_def, b_law_run, h62, h, e2, hs, Re.p, tyKnown, isiT, sizeL]
  · simp only [rangeP_len, List.nil_append] at h
    refine ⟨Str.ofString w, ?_⟩
    unfold m_law_run
    simp only [List.map_cons, List.map_nil] at h ⊢
    simp [mOf_def, b_law_run, h62, h, sizeL]
end K12
set_option Elab.async false
set_option linter.all false
set_option maxRecDepth 100000
set_option maxHeartbeats 1000000
namespace K12
open PySem PySem.Spec PyProof.Rows L2 Pu
/-! ### round_of -/
noncomputable abbrev bRound : Pu.Env → O := (sSeq (sSet 5 [] (inF (pFn m_next_state (pCons (pVar 0) (pCons (pIxO 3 (pUn pneg (pC (.int 1)))) pNil)))))
    (sSeq (sIf [] (pB (pBin (pin false) (pVar 5) (pTup (pCons (pC (.str "stopped")) (pCons (pC (.str "stuck")) pNil))))) (sRet [] (pC .non)) sNx)
    (sApp 3 [] (pVar 5))))
theorem in_str (x a b : Str) (neg : Bool) : pin neg (.str x) (.tup [.str a, .str b]) = .ok (.bl (xor neg (decide (a = x) || decide (b = x)))) := by
  simp [pin, inSeq, PV.flat, eqD, PV.dat, PyData.eqv]
  rw [show ((a == x) = decide (a = x)) from Bool.beq_eq_decide_eq a x, show ((b == x) = decide (b = x)) from Bool.beq_eq_decide_eq b x]
theorem in_st (s : St) (a b : String) (h : PyData.strOk (Str.ofString a) = true ∧ PyData.strOk (Str.ofString b) = true) (neg : Bool) : pin neg s.p (.tup [.str a, .str b]) = .ok (.bl neg) := by
  have h1 : SeqAt.shaped s.p.dat = true := by
    simp [SeqAt.shaped, St.p, St.nums, PV.dat, dats, PyData.canLay0, PyData.canLayAll0, PyData.depth, PyData.depthAll]
  have h2 : PyData.canLayAll0 (dats [.str (Str.ofString a), .str (Str.ofString b)]) = true := by
    simp [dats, PV.dat, PyData.canLayAll0, PyData.canLay0, h.1, h.2]
  have h3 : ∀ z : Str, eqD (.str z) s.p = false := fun z => rfl
  have h4 : pin neg s.p (.tup [.str (Str.ofString a), .str (Str.ofString b)]) = inSeq neg s.p [.str (Str.ofString a), .str (Str.ofString b)] := rfl
  rw [h4]; unfold inSeq; rw [if_pos (.inr ⟨h1, h2⟩)]
  simp [h3]
theorem round_one {ls : List Li} {s : St} (h : s.i < ls.length) (pre : List St) (q1 q2 x4 x5 : Slot) (hl : pre.length + 1 < sizeLine) : bRound [.sh (machP ls), q1, q2, .ow ((pre ++ [s]).map St.p), x4, x5] = (match nxt ls s with
    | .st s' => .nx [.sh (machP ls), q1, q2, .ow ((pre ++ [s, s']).map St.p), x4, .sh s'.p]
    | .stopped => .rt .non [.sh (machP ls), q1, q2, .ow ((pre ++ [s]).map St.p), x4, .sh (.str "stopped")]
    | .stuck => .rt .non [.sh (machP ls), q1, q2, .ow ((pre ++ [s]).map St.p), x4, .sh (.str "stuck")]) := by
  have e := next_nxt h
  cases z : nxt ls s with
  | st s' =>
    rw [z] at e
    have hin := in_st s' "stopped" "stuck" (by decide +kernel) false
    rw [sizeL] at hl
    simp [e, Re.p, hin, sizeL, hl]
  | stopped => rw [z] at e; simp [e, Re.p, in_str, sizeL]
  | stuck => rw [z] at e; simp [e, Re.p, in_str, sizeL]
theorem round_loop {ls : List Li} (g : Good ls) (q1 q2 : Slot) : ∀ (ps : List PV) (s : St) (pre : List St) (x4 x5 : Slot), s.i < ls.length → pre.length + ps.length + 1 < sizeLine →
    (stopw ls ps.length s = none ∧ ∃ y4 y5, forL (gNam 4) bRound ps [.sh (machP ls), q1, q2, .ow ((pre ++ [s]).map St.p), x4, x5] = .nx [.sh (machP ls), q1, q2, .ow ((pre ++ s :: trail ls ps.length s).map St.p), y4, y5])
    ∨ ∃ w r, stopw ls ps.length s = some w ∧ forL (gNam 4) bRound ps [.sh (machP ls), q1, q2, .ow ((pre ++ [s]).map St.p), x4, x5] = .rt .non r
  | [], s, pre, x4, x5, _, _ => .inl ⟨rfl, x4, x5, rfl⟩
  | p :: ps, s, pre, x4, x5, hi, hl => by
    rw [ev_forC]
    simp only [ev_gNam, List.set_cons_succ, List.set_cons_zero]
    rw [round_one hi pre q1 q2 _ _ (by simp at hl; omega)]
    simp only [List.length_cons, stopw, trail]
    cases z : nxt ls s with
    | st s' =>
      simp only
      have := round_loop g q1 q2 ps s' (pre ++ [s]) (.sh p) (.sh s'.p) (nxt_i g z) (by simp at hl ⊢; omega)
      simpa using this
    | stopped => exact .inr ⟨"stopped", _, rfl, rfl⟩
    | stuck => exact .inr ⟨"stuck", _, rfl, rfl⟩
theorem round_ok {ls : List Li} (g : Good ls) (s : St) (hi : s.i < ls.length) (n : Nat) (hn : n + 2 < sizeLine) (hs : (trail ls n s).length = n) : m_round_of [machP ls, s.p, .int n] = .ok (.lst ((s :: trail ls n s).map St.p)) := by
  have h62 := rng1_ok n (by omega)
  have hw := (trail_len ls n s).2.mp hs
  rcases round_loop g (.sh s.p) (.sh (.int n)) (rangeP 0 n) s [] .un .un hi (by simp; omega) with ⟨_, y4, y5, h⟩ | ⟨w, r, h2, h⟩
  · simp only [rangeP_len, List.nil_append] at h
    unfold m_round_of
    simp only [List.map_cons, List.map_nil] at h ⊢
    simp [mOf_def, b_round_of, h62, h, sizeL]
  · rw [rangeP_len, hw] at h2; cases h2
end K12
set_option Elab.async false
set_option linter.all false
set_option maxRecDepth 100000
set_option maxHeartbeats 1000000
namespace K12
open PySem PySem.Spec PyProof.Rows L2 Pu
/-! ### most_times, _law_due -/
def Li.tested : Li → Option (Fin 3)
  | .zero j _ _ => some j
  | .down j _ => some j
  | _ => none
def Li.isZero : Li → Bool
  | .zero _ _ _ => true
  | _ => false
/-- what times_for says: x the counter, d its growth -/
def timesI (z : Bool) (x d : Int) : Option Int := if z = true ∧ x = 0 then (if d = 0 then none else some 1) else if 0 ≤ d then none else some ((x - 1).fdiv (-d) + 1)
def optP : Option Int → PV
  | none => .non
  | some i => .int i
structure Gr where
  a : Int
  b : Int
  c : Int
def Gr.p (d : Gr) : PV := .tup [.int d.a, .int d.b, .int d.c]
def Gr.get (d : Gr) (j : Fin 3) : Int := match j with
  | 0 => d.a | 1 => d.b | 2 => d.c
def tf (l : Li) (s : St) (d : Gr) : Option Int := match l.tested with
  | none => none
  | some j => timesI l.isZero (s.get j) (d.get j)
theorem nums_ix (s : St) (j : Fin 3) : pIxV s.nums (.int (j.val : Nat)) = .ok (.int (s.get j)) := by
  rcases j with ⟨_ | _ | _ | j, hj⟩
  · rfl
  · rfl
  · rfl
  · omega
theorem gr_ix (s : Gr) (j : Fin 3) : pIxV s.p (.int (j.val : Nat)) = .ok (.int (s.get j)) := by
  rcases j with ⟨_ | _ | _ | j, hj⟩
  · rfl
  · rfl
  · rfl
  · omega
theorem pfdiv_ok (i j : Int) (h1 : j ≠ 0) (h2 : j.natAbs < 1073741824) : pfdiv (.int i) (.int j) = .ok (.int (i.fdiv j)) := by
  simp only [pfdiv]; rw [if_pos ⟨h1, h2⟩]
theorem times_ok (l : Li) (s : St) (d : Gr) (hd : ∀ j, (d.get j).natAbs < 1073741824) : m_times_for [l.p, s.nums, d.p] = .ok (optP (tf l s d)) := by
  cases l with
  | stop => simp [m_times_for, b_times_for, mOf_def, Li.p, in_str, sizeL, tf, Li.tested, optP]
  | go t => simp [m_times_for, b_times_for, mOf_def, Li.p, in_str, sizeL, tf, Li.tested, optP]
  | up j t => simp [m_times_for, b_times_for, mOf_def, Li.p, in_str, sizeL, tf, Li.tested, optP]
  | down j t =>
    have h := hd j
    by_cases h0 : 0 ≤ d.get j
    · simp [m_times_for, b_times_for, mOf_def, Li.p, in_str, sizeL, tf, Li.tested, optP, nums_ix, gr_ix, timesI, Li.isZero, h0]
    · have hf := pfdiv_ok ((s.get j : Int) - 1) (-(d.get j)) (by omega) (by omega)
      simp [m_times_for, b_times_for, mOf_def, Li.p, in_str, sizeL, tf, Li.tested, optP, nums_ix, gr_ix, timesI, Li.isZero, h0, hf]
  | zero j t u =>
    have h := hd j
    by_cases h1 : s.get j = 0
    · by_cases h2 : d.get j = 0
      · simp [m_times_for, b_times_for, mOf_def, Li.p, in_str, sizeL, tf, Li.tested, optP, nums_ix, gr_ix, timesI, Li.isZero, h1, h2]
      · simp [m_times_for, b_times_for, mOf_def, Li.p, in_str, sizeL, tf, Li.tested, optP, nums_ix, gr_ix, timesI, Li.isZero, h1, h2]
    · by_cases h0 : 0 ≤ d.get j
      · simp [m_times_for, b_times_for, mOf_def, Li.p, in_str, sizeL, tf, Li.tested, optP, nums_ix, gr_ix, timesI, Li.isZero, h0, h1]
      · have hf := pfdiv_ok ((s.get j : Int) - 1) (-(d.get j)) (by omega) (by omega)
        simp [m_times_for, b_times_for, mOf_def, Li.p, in_str, sizeL, tf, Li.tested, optP, nums_ix, gr_ix, timesI, Li.isZero, h0, h1, hf]
/-- what grows -/
def grw (s t : St) : Gr := ⟨t.a - s.a, t.b - s.b, t.c - s.c⟩
@[simp] theorem ix0_p (s : St) : pIxV s.p (.int 0) = .ok (.int s.i) := rfl
@[simp] theorem ix1_p (s : St) : pIxV s.p (.int 1) = .ok s.nums := rfl
theorem grown_ok (S : List St) (s t : St) (h1 : S.head? = some s) (h2 : S.getLast? = some t) : m_grown [.lst (S.map St.p)] = .ok (grw s t).p := by
  have e1 : (S.map St.p)[0]? = some s.p := by rw [List.getElem?_map, ← List.head?_eq_getElem?, h1]; rfl
  have e2 : (S.map St.p).getLast? = some t.p := by rw [List.getLast?_map, h2]; rfl
  have e3 : zip2 [s.nums, t.nums] = .ok [.tup [.int s.a, .int t.a], .tup [.int s.b, .int t.b], .tup [.int s.c, .int t.c]] := rfl
  simp [m_grown, b_grown, mOf_def, e1, e2, e3, sizeL, grw, Gr.p]
/-- the least of some -/
def least (xs : List Int) : Option Int := match xs with
  | [] => none
  | x :: xs => some (minOf x xs)
theorem known_loop (ρ : Pu.Env) (h7 : ρ.length = 8) : ∀ xs : List (Option Int), compL (gNam 7) (pB (pBin (pIdK true) (pVar 7) (pC .non))) (pVar 7) ρ (xs.map optP) = .ok ((xs.filterMap id).map PV.int)
  | [] => rfl
  | x :: xs => by
    have this := known_loop ρ h7 xs
    cases x with
    | none =>
      have hx : (ρ.set 7 (.sh PV.non))[7]? = some (.sh PV.non) := by rw [List.getElem?_set_self]; omega
      simp [this, hx, optP, PV.isNon]
    | some i =>
      have hx : (ρ.set 7 (.sh (.int i)))[7]? = some (.sh (.int i)) := by rw [List.getElem?_set_self]; omega
      simp [this, hx, optP, PV.isNon]
@[simp] theorem at_gr (d : Gr) : d.p.atom = false := rfl
def lineAt (ls : List Li) (i : Nat) : Li := (ls[i]?).getD .stop
theorem line_at {ls : List Li} {i : Nat} (h : i < ls.length) : m_Machine_line [machP ls, .int i] = .ok (lineAt ls i).p := by
  rw [line_get]; simp [lineAt, h]
@[simp] theorem tup_p (s : St) (i j : Nat) (ρ : Pu.Env) : gTupP 2 (gsCons (gNam i) (gsCons (gNam j) gsNil)) s.p ρ = .ok ((ρ.set i (.sh (.int s.i))).set j (.sh s.nums)) := rfl
theorem times_loop {ls : List Li} (q1 u3 u4 u5 u6 u7 : Slot) (d : Gr) (hd : ∀ j, (d.get j).natAbs < 1073741824) : ∀ S : List St, (∀ s ∈ S, s.i < ls.length) →
    compL (gTupP 2 (gsCons (gNam 5) (gsCons (gNam 6) gsNil))) tYesP (pFn m_times_for (pCons (pMeth "Machine" "line" m_Machine_line (pVar 0) (pCons (pVar 5) pNil)) (pCons (pVar 6) (pCons (pVar 2) pNil)))) [.sh (machP ls), q1, .sh d.p, u3, u4, u5, u6, u7] (S.map St.p) = .ok (S.map fun x => optP (tf (lineAt ls x.i) x d))
  | [], _ => rfl
  | s :: S, h => by
    have := times_loop q1 u3 u4 u5 u6 u7 d hd S (fun x hx => h x (List.mem_cons_of_mem _ hx))
    simp [this, line_at (h s (List.mem_cons_self ..)), times_ok _ s d hd, List.lookup]
def dueL (ls : List Li) (S : List St) (d : Gr) : Option Int := least ((S.map fun x => tf (lineAt ls x.i) x d).filterMap id)
theorem ints_map (xs : List Int) : intsP (xs.map PV.int) = some xs := by
  induction xs with
  | nil => rfl
  | cons x xs ih => simp [intsP, ih]
theorem min_some (n : Int) (ns : List Int) : pmin [.lst (.int n :: ns.map PV.int)] = .ok (.int (minOf n ns)) := by
  have hi := ints_map (n :: ns)
  simp only [List.map_cons] at hi
  simp only [pmin, pminI, hi]
theorem cut_last {α : Type} (xs : List α) : cutP xs none (some (-1)) = xs.dropLast := by
  unfold cutP HT.sIx
  simp [List.dropLast_eq_take]
  congr 1
  omega
theorem most_two (ls : List Li) (S : List St) (s t : St) (hl : 2 ≤ S.length) (h1 : S.head? = some s) (h2 : S.getLast? = some t) (he : s.i = t.i) (hv : ∀ x ∈ S, x.i < ls.length) (hd : ∀ j, ((grw s t).get j).natAbs < 1073741824) (hz : S.length < sizeLine) :
    m_most_times [machP ls, .lst (S.map St.p)] = .ok (optP (dueL ls S.dropLast (grw s t))) := by
  have e1 : (S.map St.p)[0]? = some s.p := by rw [List.getElem?_map, ← List.head?_eq_getElem?, h1]; rfl
  have e2 : (S.map St.p).getLast? = some t.p := by rw [List.getLast?_map, h2]; rfl
  have e3 := times_loop (.sh (.lst (S.map St.p))) .un .un .un .un .un (grw s t) hd S.dropLast (fun x hx => hv x ((List.dropLast_sublist S).subset hx))
  have e4 : ¬ ((S.length : Int) < 2) := by omega
  have e5 : cutP (S.map St.p) none (some (-1)) = (S.map St.p).dropLast := cut_last _
  have e55 : S.dropLast.map St.p = (S.map St.p).dropLast := by simp
  rw [e55] at e3
  have e6 : (S.dropLast.map fun x => optP (tf (lineAt ls x.i) x (grw s t))) = (S.dropLast.map fun x => tf (lineAt ls x.i) x (grw s t)).map optP := by rw [List.map_map]; rfl
  have e7 := known_loop [.sh (machP ls), .sh (.lst (S.map St.p)), .sh (grw s t).p, .sh (.lst ((S.dropLast.map fun x => tf (lineAt ls x.i) x (grw s t)).map optP)), .un, .un, .un, .un] rfl (S.dropLast.map fun x => tf (lineAt ls x.i) x (grw s t))
  have e8 : S.length - 1 ≤ sizeLine := by omega
  have e9 : ((S.dropLast.map fun x => tf (lineAt ls x.i) x (grw s t)).filterMap id).length ≤ sizeLine := by
    refine Nat.le_trans (List.length_filterMap_le _ _) ?_
    simp; omega
  unfold dueL
  rw [e6] at e3
  generalize hk : (S.dropLast.map fun x => tf (lineAt ls x.i) x (grw s t)) = ks at *
  have e10 : ks.length ≤ sizeLine := by rw [← hk]; simp; omega
  generalize hn : ks.filterMap id = ns at *
  cases ns with
  | nil => simp [m_most_times, b_most_times, mOf_def, e1, e2, he, e4, e5, e3, e7, e9, e10, PV.isNon, grown_ok S s t h1 h2, least, optP]
  | cons n ns =>
    simp only [List.map_cons] at e7
    have e9' : ns.length + 1 ≤ sizeLine := by simpa using e9
    simp [m_most_times, b_most_times, mOf_def, e1, e2, he, e4, e5, e3, e7, e9', e10, PV.isNon, grown_ok S s t h1 h2, least, optP, min_some]
end K12
set_option Elab.async false
set_option linter.all false
set_option maxRecDepth 100000
set_option maxHeartbeats 1000000
namespace K12
open PySem PySem.Spec PyProof.Rows L2 Pu
theorem most_zero (ls : List Li) (S : List St) (h : S.length < 2 ∨ ∃ s t, S.head? = some s ∧ S.getLast? = some t ∧ s.i ≠ t.i) : m_most_times [machP ls, .lst (S.map St.p)] = .ok (.int 0) := by
  by_cases hl : S.length < 2
  · have e4 : ((S.length : Int) < 2) := by omega
    simp [m_most_times, b_most_times, mOf_def, e4, PV.isNon]
  · rcases h with h | ⟨s, t, h1, h2, h3⟩
    · exact absurd h hl
    · have e1 : (S.map St.p)[0]? = some s.p := by rw [List.getElem?_map, ← List.head?_eq_getElem?, h1]; rfl
      have e2 : (S.map St.p).getLast? = some t.p := by rw [List.getLast?_map, h2]; rfl
      have e4 : ¬ ((S.length : Int) < 2) := by omega
      have h3' : ¬ ((s.i : Int) = t.i) := by omega
      simp [m_most_times, b_most_times, mOf_def, e1, e2, e4, PV.isNon, h3, h3']
theorem due_zero (ls : List Li) (S : List St) (h : S.length < 2 ∨ ∃ s t, S.head? = some s ∧ S.getLast? = some t ∧ s.i ≠ t.i) : m_law_due [linesP ls, .lst (S.map St.p)] = .ok (.int 0) := by
  by_cases hl : S.length < 2
  · have e4 : ((S.length : Int) < 2) := by omega
    simp [m_law_due, b_law_due, mOf_def, e4, PV.isNon]
  · rcases h with h | ⟨s, t, h1, h2, h3⟩
    · exact absurd h hl
    · have e1 : (S.map St.p)[0]? = some s.p := by rw [List.getElem?_map, ← List.head?_eq_getElem?, h1]; rfl
      have e2 : (S.map St.p).getLast? = some t.p := by rw [List.getLast?_map, h2]; rfl
      have e4 : ¬ ((S.length : Int) < 2) := by omega
      have h3' : ¬ ((s.i : Int) = t.i) := by omega
      simp [m_law_due, b_law_due, mOf_def, e1, e2, e4, PV.isNon, h3, h3']
noncomputable abbrev bDue : Pu.Env → O := (sSeq (sSet 5 [] (inF (pBin pIxV (pVar 0) (pVar 3))))
    (sSeq (sIf [] (pB (pBin (pin true) (pBin pIxV (pVar 5) (pC (.int 0))) (pTup (pCons (pC (.str "zero")) (pCons (pC (.str "down")) pNil))))) sCt sNx)
    (sSeq (sPar 6 7 (inF (pBin pIxV (pVar 4) (pBin pIxV (pVar 5) (pC (.int 1))))) (inF (pBin psub (pBin pIxV (pBin pIxV (pBin pIxV (pVar 1) (pUn pneg (pC (.int 1)))) (pC (.int 1))) (pBin pIxV (pVar 5) (pC (.int 1)))) (pBin pIxV (pBin pIxV (pBin pIxV (pVar 1) (pC (.int 0))) (pC (.int 1))) (pBin pIxV (pVar 5) (pC (.int 1)))))))
    (sSeq (sIf [] (pAndT (pB (pBin peq (pVar 6) (pC (.int 0)))) (pB (pBin pne (pVar 7) (pC (.int 0))))) (sSet 8 [] (inF (pC (.int 1)))) (sIf [] (pB (pBin plt (pVar 7) (pC (.int 0)))) (sSet 8 [] (inF (pBin pfdiv (pBin psub (pBin padd (pVar 6) (pBin psub (pC (.int 0)) (pVar 7))) (pC (.int 1))) (pBin psub (pC (.int 0)) (pVar 7))))) sCt))
    (sIf [] (pOrT (pB (pBin (pIdK false) (pVar 2) (pC .non))) (pB (pBin plt (pVar 8) (pVar 2)))) (sSet 2 [] (inF (pVar 8))) sNx)))))
def upd1 (acc : Option Int) (v : Option Int) : Option Int := match v with
  | none => acc
  | some v => (match acc with
    | none => some v
    | some a => some (if v < a then v else a))
theorem ceil_eq (x d : Int) (h : d < 0) : (x + (0 - d) - 1).fdiv (0 - d) = (x - 1).fdiv (-d) + 1 := by
  have e : x + (0 - d) - 1 = (x - 1) + 1 * (-d) := by omega
  have e0 : (0 - d) = -d := by omega
  rw [e, e0, Int.fdiv_eq_ediv_of_nonneg _ (by omega), Int.fdiv_eq_ediv_of_nonneg _ (by omega), Int.add_mul_ediv_right _ _ (by omega)]
theorem grw_get (s t : St) (j : Fin 3) : (grw s t).get j = (t.get j : Int) - s.get j := by
  rcases j with ⟨_ | _ | _ | j, hj⟩
  · rfl
  · rfl
  · rfl
  · omega
/-- the law's own reading at one state -/
theorem due_one {ls : List Li} (S : PV) (s t x : St) (acc : Option Int) (hx : x.i < ls.length) (hp : ∀ j u, lineAt ls x.i = .down j u → x.get j ≠ 0) (h1 : pIxV S (.int 0) = .ok s.p) (h2 : pIxV S (.int (-1)) = .ok t.p) (hd : ∀ j, ((grw s t).get j).natAbs < 1073741824) (s5 s6 s7 s8 : Slot) :
    ∃ y5 y6 y7 y8, bDue [.sh (linesP ls), .sh S, .sh (optP acc), .sh (.int x.i), .sh x.nums, s5, s6, s7, s8] = .nx [.sh (linesP ls), .sh S, .sh (optP (upd1 acc (tf (lineAt ls x.i) x (grw s t)))), .sh (.int x.i), .sh x.nums, y5, y6, y7, y8]
     ∨ bDue [.sh (linesP ls), .sh S, .sh (optP acc), .sh (.int x.i), .sh x.nums, s5, s6, s7, s8] = .ct [.sh (linesP ls), .sh S, .sh (optP (upd1 acc (tf (lineAt ls x.i) x (grw s t)))), .sh (.int x.i), .sh x.nums, y5, y6, y7, y8] := by
  have hl : ls[x.i]? = some (lineAt ls x.i) := by simp [lineAt, hx]
  generalize lineAt ls x.i = l at *
  cases l with
  | stop => exact ⟨.sh (Li.p .stop), s6, s7, s8, .inr (by simp [hl, Li.p, in_str, sizeL, tf, Li.tested, upd1])⟩
  | go u => exact ⟨.sh (Li.p (.go u)), s6, s7, s8, .inr (by simp [hl, Li.p, in_str, sizeL, tf, Li.tested, upd1])⟩
  | up j u => exact ⟨.sh (Li.p (.up j u)), s6, s7, s8, .inr (by simp [hl, Li.p, in_str, sizeL, tf, Li.tested, upd1])⟩
  | down j u =>
    have hj := hd j
    have hx0 := hp j u rfl
    rw [grw_get] at hj
    by_cases h0 : (t.get j : Int) - s.get j < 0
    · skip
      have hf := pfdiv_ok ((x.get j : Int) + (0 - ((t.get j : Int) - s.get j)) - 1) (0 - ((t.get j : Int) - s.get j)) (by omega) (by omega)
      have hc := ceil_eq (x.get j) _ h0
      rw [hc] at hf
      have h0' : ¬ (s.get j ≤ t.get j) := by omega
      cases acc with
      | none =>
        refine ⟨(.sh (Li.p (.down j u))), (.sh (.int (x.get j))), (.sh (.int ((t.get j : Int) - s.get j))), (.sh (.int (((x.get j : Int) - 1).fdiv (-((t.get j : Int) - s.get j)) + 1))), .inl ?_⟩
        simp [hl, Li.p, in_str, sizeL, tf, Li.tested, upd1, nums_ix, h1, h2, optP, PV.isNon, timesI, Li.isZero, grw_get, -Int.zero_sub, hx0, h0, hf, h0']
      | some a =>
        refine ⟨(.sh (Li.p (.down j u))), (.sh (.int (x.get j))), (.sh (.int ((t.get j : Int) - s.get j))), (.sh (.int (((x.get j : Int) - 1).fdiv (-((t.get j : Int) - s.get j)) + 1))), .inl ?_⟩
        simp [hl, Li.p, in_str, sizeL, tf, Li.tested, upd1, nums_ix, h1, h2, optP, PV.isNon, timesI, Li.isZero, grw_get, -Int.zero_sub, hx0, h0, hf, h0']
        split <;> rfl
    · have h0' : s.get j ≤ t.get j := by omega
      refine ⟨(.sh (Li.p (.down j u))), (.sh (.int (x.get j))), (.sh (.int ((t.get j : Int) - s.get j))), s8, .inr ?_⟩
      simp [hl, Li.p, in_str, sizeL, tf, Li.tested, upd1, nums_ix, h1, h2, optP, PV.isNon, timesI, Li.isZero, grw_get, -Int.zero_sub, hx0, h0, h0']
  | zero j u v =>
    have hj := hd j
    rw [grw_get] at hj
    by_cases hx0 : x.get j = 0
    · by_cases hz : (t.get j : Int) - s.get j = 0
      · have h0 : ¬ ((t.get j : Int) - s.get j < 0) := by omega
        refine ⟨(.sh (Li.p (.zero j u v))), (.sh (.int (x.get j))), (.sh (.int ((t.get j : Int) - s.get j))), s8, .inr ?_⟩
        simp [hl, Li.p, in_str, sizeL, tf, Li.tested, upd1, nums_ix, h1, h2, optP, PV.isNon, timesI, Li.isZero, grw_get, -Int.zero_sub, hx0, hz, h0]
      · skip
        cases acc with
        | none =>
          refine ⟨(.sh (Li.p (.zero j u v))), (.sh (.int (x.get j))), (.sh (.int ((t.get j : Int) - s.get j))), (.sh (.int 1)), .inl ?_⟩
          simp [hl, Li.p, in_str, sizeL, tf, Li.tested, upd1, nums_ix, h1, h2, optP, PV.isNon, timesI, Li.isZero, grw_get, -Int.zero_sub, hx0, hz]
        | some a =>
          refine ⟨(.sh (Li.p (.zero j u v))), (.sh (.int (x.get j))), (.sh (.int ((t.get j : Int) - s.get j))), (.sh (.int 1)), .inl ?_⟩
          simp [hl, Li.p, in_str, sizeL, tf, Li.tested, upd1, nums_ix, h1, h2, optP, PV.isNon, timesI, Li.isZero, grw_get, -Int.zero_sub, hx0, hz]
          split <;> rfl
    · by_cases h0 : (t.get j : Int) - s.get j < 0
      · skip
        have hf := pfdiv_ok ((x.get j : Int) + (0 - ((t.get j : Int) - s.get j)) - 1) (0 - ((t.get j : Int) - s.get j)) (by omega) (by omega)
        have hc := ceil_eq (x.get j) _ h0
        rw [hc] at hf
        have h0' : ¬ (s.get j ≤ t.get j) := by omega
        cases acc with
        | none =>
          refine ⟨(.sh (Li.p (.zero j u v))), (.sh (.int (x.get j))), (.sh (.int ((t.get j : Int) - s.get j))), (.sh (.int (((x.get j : Int) - 1).fdiv (-((t.get j : Int) - s.get j)) + 1))), .inl ?_⟩
          simp [hl, Li.p, in_str, sizeL, tf, Li.tested, upd1, nums_ix, h1, h2, optP, PV.isNon, timesI, Li.isZero, grw_get, -Int.zero_sub, hx0, h0, hf, h0']
        | some a =>
          refine ⟨(.sh (Li.p (.zero j u v))), (.sh (.int (x.get j))), (.sh (.int ((t.get j : Int) - s.get j))), (.sh (.int (((x.get j : Int) - 1).fdiv (-((t.get j : Int) - s.get j)) + 1))), .inl ?_⟩
          simp [hl, Li.p, in_str, sizeL, tf, Li.tested, upd1, nums_ix, h1, h2, optP, PV.isNon, timesI, Li.isZero, grw_get, -Int.zero_sub, hx0, h0, hf, h0']
          split <;> rfl
      · have h0' : s.get j ≤ t.get j := by omega
        refine ⟨(.sh (Li.p (.zero j u v))), (.sh (.int (x.get j))), (.sh (.int ((t.get j : Int) - s.get j))), s8, .inr ?_⟩
        simp [hl, Li.p, in_str, sizeL, tf, Li.tested, upd1, nums_ix, h1, h2, optP, PV.isNon, timesI, Li.isZero, grw_get, -Int.zero_sub, hx0, h0, h0']
end K12
set_option Elab.async false
set_option linter.all false
set_option maxRecDepth 100000
set_option maxHeartbeats 1000000
namespace K12
open PySem PySem.Spec PyProof.Rows L2 Pu
theorem due_loop {ls : List Li} (S : PV) (s t : St) (h1 : pIxV S (.int 0) = .ok s.p) (h2 : pIxV S (.int (-1)) = .ok t.p) (hd : ∀ j, ((grw s t).get j).natAbs < 1073741824) : ∀ (T : List St) (acc : Option Int) (s3 s4 s5 s6 s7 s8 : Slot), (∀ x ∈ T, x.i < ls.length ∧ ∀ j u, lineAt ls x.i = .down j u → x.get j ≠ 0) →
    ∃ y3 y4 y5 y6 y7 y8, forL (gTupP 2 (gsCons (gNam 3) (gsCons (gNam 4) gsNil))) bDue (T.map St.p) [.sh (linesP ls), .sh S, .sh (optP acc), s3, s4, s5, s6, s7, s8] = .nx [.sh (linesP ls), .sh S, .sh (optP ((T.map fun x => tf (lineAt ls x.i) x (grw s t)).foldl upd1 acc)), y3, y4, y5, y6, y7, y8]
  | [], acc, s3, s4, s5, s6, s7, s8, _ => ⟨_, _, _, _, _, _, rfl⟩
  | x :: T, acc, s3, s4, s5, s6, s7, s8, h => by
    obtain ⟨y5, y6, y7, y8, e⟩ := due_one S s t x acc (h x (List.mem_cons_self ..)).1 (h x (List.mem_cons_self ..)).2 h1 h2 hd s5 s6 s7 s8
    have ih := due_loop S s t h1 h2 hd T (upd1 acc (tf (lineAt ls x.i) x (grw s t))) (.sh (.int x.i)) (.sh x.nums) y5 y6 y7 y8 (fun z hz => h z (List.mem_cons_of_mem _ hz))
    rw [List.map_cons, ev_forC, tup_p]
    simp only [List.set_cons_succ, List.set_cons_zero, List.map_cons, List.foldl_cons]
    rcases e with e | e <;> rw [e] <;> exact ih
theorem fold_some : ∀ (ks : List (Option Int)) (a : Int), ks.foldl upd1 (some a) = some ((ks.filterMap id).foldl min a)
  | [], a => rfl
  | none :: ks, a => by simpa [upd1] using fold_some ks a
  | some v :: ks, a => by
    have e : (if v < a then v else a) = min a v := by omega
    simp only [List.foldl_cons, upd1, e]
    rw [fold_some ks]
    simp
theorem fold_least : ∀ ks : List (Option Int), ks.foldl upd1 none = least (ks.filterMap id)
  | [] => rfl
  | none :: ks => by simpa [upd1] using fold_least ks
  | some v :: ks => by
    simp only [List.foldl_cons, upd1]
    rw [fold_some]
    simp [least, minOf]
theorem due_two (ls : List Li) (S : List St) (s t : St) (hl : 2 ≤ S.length) (h1 : S.head? = some s) (h2 : S.getLast? = some t) (he : s.i = t.i) (hv : ∀ x ∈ S.dropLast, x.i < ls.length ∧ ∀ j u, lineAt ls x.i = .down j u → x.get j ≠ 0) (hd : ∀ j, ((grw s t).get j).natAbs < 1073741824) :
    m_law_due [linesP ls, .lst (S.map St.p)] = .ok (optP (dueL ls S.dropLast (grw s t))) := by
  have e1 : (S.map St.p)[0]? = some s.p := by rw [List.getElem?_map, ← List.head?_eq_getElem?, h1]; rfl
  have e2 : (S.map St.p).getLast? = some t.p := by rw [List.getLast?_map, h2]; rfl
  have f1 : pIxV (.lst (S.map St.p)) (.int 0) = .ok s.p := by simp [e1]
  have f2 : pIxV (.lst (S.map St.p)) (.int (-1)) = .ok t.p := by simp [e2]
  have e4 : ¬ ((S.length : Int) < 2) := by omega
  have e5 : cutP (S.map St.p) none (some (-1)) = (S.map St.p).dropLast := cut_last _
  have e55 : S.dropLast.map St.p = (S.map St.p).dropLast := by simp
  obtain ⟨y3, y4, y5, y6, y7, y8, e⟩ := due_loop (.lst (S.map St.p)) s t f1 f2 hd S.dropLast none .un .un .un .un .un .un hv
  rw [e55, fold_least] at e
  simp only [optP] at e
  simp [m_law_due, b_law_due, mOf_def, e1, e2, he, e4, e5, e, dueL]
  rfl
/-! ### a machine is made -/
theorem whole_loop (ρ : Pu.Env) (i : Nat) (h : i < ρ.length) : ∀ xs : List Nat, compL (gNam i) tYesP (pFn m_is_whole (pCons (pVar i) pNil)) ρ (xs.map fun (x : Nat) => PV.int x) = .ok (xs.map fun _ => PV.bl true)
  | [] => rfl
  | x :: xs => by
    have hx : (ρ.set i (.sh (.int x)))[i]? = some (.sh (.int x)) := by rw [List.getElem?_set_self]; omega
    have := whole_loop ρ i h xs
    simp [hx, is_whole_int, this]
theorem all_true {α : Type} (xs : List α) : pall [.lst (xs.map fun _ => PV.bl true)] = .ok (.bl true) := by
  have : bools (xs.map fun _ => PV.bl true) = some (xs.map fun _ => true) := by
    induction xs with
    | nil => rfl
    | cons x xs ih => simp [bools, ih]
  simp [pall, this]
theorem is_line_ok (l : Li) (n : Nat) (h : l.ok n) : m_is_line [l.p, .int 3, .int n] = .ok (.bl true) := by
  cases l with
  | stop =>
    simp [m_is_line, b_is_line, mOf_def, Li.p, isiT, tyKnown, cutP, HT.sIx, pall, bools, sizeL]
  | go t =>
    have h : t < n := h
    have h' : ((t : Int) < n) := by omega
    simp [m_is_line, b_is_line, mOf_def, Li.p, isiT, tyKnown, cutP, HT.sIx, is_whole_int, nat_nn, pall, bools, sizeL, h]
  | up j t =>
    have h : t < n := h
    have hj : j.val < 3 := j.isLt
    have hj' : ((j.val : Int) < 3) := by omega
    simp [m_is_line, b_is_line, mOf_def, Li.p, isiT, tyKnown, cutP, HT.sIx, is_whole_int, nat_nn, pall, bools, sizeL, h, in_str, hj, hj']
  | down j t =>
    have h : t < n := h
    have hj : j.val < 3 := j.isLt
    have hj' : ((j.val : Int) < 3) := by omega
    simp [m_is_line, b_is_line, mOf_def, Li.p, isiT, tyKnown, cutP, HT.sIx, is_whole_int, nat_nn, pall, bools, sizeL, h, in_str, hj, hj']
  | zero j t u =>
    have hj : j.val < 3 := j.isLt
    have hj' : ((j.val : Int) < 3) := by omega
    have hm : max (t : Int) u < n := by have := h.1; have := h.2; omega
    simp [m_is_line, b_is_line, mOf_def, Li.p, isiT, tyKnown, cutP, HT.sIx, is_whole_int, nat_nn, pall, bools, sizeL, in_str, hj, hj', pmax, pmaxI, intsP, maxOf, hm]
end K12
set_option Elab.async false
set_option linter.all false
set_option maxRecDepth 100000
set_option maxHeartbeats 1000000
namespace K12
open PySem PySem.Spec PyProof.Rows L2 Pu
def Li.isStop : Li → Bool
  | .stop => true
  | _ => false
noncomputable abbrev bWrong : Pu.Env → O := (sIf [] (pOrT (pNotT (pTr (pFn m_is_line (pCons (pVar 3) (pCons (pVar 0) (pCons (pCal plen (pCons (pVar 1) pNil)) pNil)))))) (pB (pBin pne (pBin peq (pBin pIxV (pVar 3) (pC (.int 0))) (pC (.str "stop"))) (pBin peq (pVar 2) (pBin psub (pCal plen (pCons (pVar 1) pNil)) (pC (.int 1))))))) (sRet [] (pVar 2)) sNx)
theorem word_stop (l : Li) : (pIxV l.p (.int 0)).bind (fun w => peq w (.str "stop")) = .ok (.bl l.isStop) := by
  cases l <;> simp [Li.p, Li.isStop]
theorem wrong_one {ls : List Li} (l : Li) (i : Nat) (h : l.ok ls.length) (hs : l.isStop = decide (i + 1 = ls.length)) : bWrong [.sh (.int 3), .sh (linesP ls), .sh (.int i), .sh l.p] = .nx [.sh (.int 3), .sh (linesP ls), .sh (.int i), .sh l.p] := by
  have e := is_line_ok l ls.length h
  have ei : ((i : Int) = (ls.length : Int) - 1) ↔ i + 1 = ls.length := by omega
  cases l with
  | stop => simp [Li.isStop] at hs; simp [e, Li.p] at e ⊢; simp [e, ei, ← hs, Li.p]
  | go t => simp [Li.isStop] at hs; simp [Li.p] at e ⊢; simp [e, ei, hs]
  | up j t => simp [Li.isStop] at hs; simp [Li.p] at e ⊢; simp [e, ei, hs]
  | down j t => simp [Li.isStop] at hs; simp [Li.p] at e ⊢; simp [e, ei, hs]
  | zero j t u => simp [Li.isStop] at hs; simp [Li.p] at e ⊢; simp [e, ei, hs]
theorem wrong_loop {ls : List Li} : ∀ (xs : List Li) (k : Nat) (s2 s3 : Slot), (∀ i l, xs[i]? = some l → l.ok ls.length ∧ l.isStop = decide (k + i + 1 = ls.length)) →
    ∃ y2 y3, forL (gTupP 2 (gsCons (gNam 2) (gsCons (gNam 3) gsNil))) bWrong (((xs.map Li.p).zipIdx k).map fun pi => PV.tup [.int (pi.2 : Nat), pi.1]) [.sh (.int 3), .sh (linesP ls), s2, s3] = .nx [.sh (.int 3), .sh (linesP ls), y2, y3]
  | [], k, s2, s3, _ => ⟨s2, s3, rfl⟩
  | l :: xs, k, s2, s3, h => by
    have e := wrong_one l k (h 0 l rfl).1 (by simpa using (h 0 l rfl).2)
    have ih := wrong_loop xs (k + 1) (.sh (.int k)) (.sh l.p) (fun i x hx => by
      have := h (i + 1) x (by simpa using hx)
      refine ⟨this.1, ?_⟩
      rw [this.2]
      congr 1
      exact propext ⟨fun z => by omega, fun z => by omega⟩)
    simp only [List.map_cons, List.zipIdx_cons, ev_forC]
    simp only [ev_gTupP, ev_gsCons, ev_gsNil, ev_gNam, ev_bind, List.length_cons, List.length_nil, List.set_cons_succ, List.set_cons_zero]
    simp only [if_true, e]
    exact ih
structure Valid (ls : List Li) : Prop where
  good : Good ls
  stop : ∀ i l, ls[i]? = some l → l.isStop = decide (i + 1 = ls.length)
  one : 1 ≤ ls.length
  most : ls.length ≤ 1200
theorem wrong_ok {ls : List Li} (v : Valid ls) : m_wrong_line [.int 3, linesP ls] = .ok .non := by
  obtain ⟨y2, y3, e⟩ := wrong_loop (ls := ls) ls 0 .un .un (fun i l h => ⟨v.good l (List.mem_of_getElem? h), by simpa using v.stop i l h⟩)
  have he : enum1 [linesP ls] = .ok (((ls.map Li.p).zipIdx 0).map fun pi => PV.tup [.int (pi.2 : Nat), pi.1]) := rfl
  simp [m_wrong_line, b_wrong_line, mOf_def, he, e]
theorem made_ok {ls : List Li} (v : Valid ls) : m_Machine_init [.int 3, linesP ls] = .ok [("_counters", .sh (.int 3)), ("_lines", .sh (linesP ls))] := by
  have h1 : ((1 : Int) ≤ ls.length) := by have := v.one; omega
  have h2 : ((ls.length : Int) ≤ 1200) := by have := v.most; omega
  have h3 : 1 ≤ ls.length := v.one
  have h4 : ls.length ≤ 1200 := v.most
  simp [m_Machine_init, b_Machine_init, mInit, is_whole_int, isiT, tyKnown, h1, h2, h3, h4, wrong_ok v, PV.isNon, putS]
end K12
set_option Elab.async false
set_option linter.all false
set_option maxRecDepth 100000
set_option maxHeartbeats 1000000
namespace K12
open PySem PySem.Spec PyProof.Rows L2 Pu
theorem rng1_ok' (n : Nat) (h : n < sizeLine) : rng1 [.int (n : Int)] = .ok (rangeP 0 n) := by
  rw [sizeL] at h
  have h1 : -(2 ^ 62) ≤ (n : Int) := Int.le_trans (by decide) (Int.natCast_nonneg n)
  have h2 : (n : Int) < 2 ^ 62 := Int.lt_trans (b := (16777216 : Int)) (by omega) (by decide)
  rw [rng1, whenP_pos ⟨h1, h2⟩, Int.toNat_natCast]
theorem pmul_r (i j : Int) (h : j.natAbs < 18446744073709551616) : pmul (.int i) (.int j) = .ok (.int (i * j)) := by
  have : mulOk i j := .inl (.inr ⟨by omega, by omega⟩)
  simp [pmul, pmulF, this]
theorem pmul_l (i j : Int) (h : i.natAbs < 18446744073709551616) : pmul (.int i) (.int j) = .ok (.int (i * j)) := by
  have : mulOk i j := .inl (.inl ⟨by omega, by omega⟩)
  simp [pmul, pmulF, this]
theorem pfdiv_ok' (i j : Int) (h1 : j ≠ 0) (h2 : j.natAbs < 1073741824) : pfdiv (.int i) (.int j) = .ok (.int (i.fdiv j)) := by
  simp only [pfdiv]; rw [if_pos ⟨h1, h2⟩]
theorem ten18 : ppow (.int 10) (.int 18) = .ok (.int 1000000000000000000) := by simp [ppow]
abbrev natsP (xs : List Nat) : List PV := xs.map fun (x : Nat) => PV.int x
noncomputable abbrev bNum : Pu.Env → O := (sIf [] (pB (pBin pge (pVar 3) (pBin ppow (pC (.int 10)) (pC (.int 18))))) (sSeq (sApp 4 [] (pBin pmod (pVar 3) (pC (.int 1009))))
    (sSet 3 [] (inF (pBin pfdiv (pVar 3) (pC (.int 1009)))))) (sSeq (sSet 6 [] (inF (pBin pmod (pBin padd (pBin padd (pBin pmul (pVar 3) (pC (.int 48271))) (pBin pmul (pBin padd (pVar 5) (pC (.int 1))) (pC (.int 69621)))) (pBin pmul (pVar 1) (pC (.int 4001)))) (pC (.int 2147483647)))))
    (sSeq (sSet 6 [] (inF (pBin pmod (pBin padd (pBin pmul (pVar 6) (pVar 6)) (pBin pmul (pC (.int 16807)) (pBin padd (pVar 5) (pC (.int 3))))) (pC (.int 2147483629)))))
    (sApp 4 [] (pBin pmod (pBin pfdiv (pVar 6) (pC (.int 7))) (pC (.int 1009)))))))
theorem mod_nat (c : Int) (m : Nat) (hm : 0 < m) : ∃ x : Nat, x < m ∧ c.fmod m = (x : Int) := by
  have h1 := Int.fmod_nonneg_of_pos c (b := (m : Int)) (by omega)
  have h2 := Int.fmod_lt_of_pos c (b := (m : Int)) (by omega)
  exact ⟨(c.fmod m).toNat, by omega, by omega⟩
theorem num_one (scr q2 s6 : Slot) (at_ cell k : Int) (L : List PV) (hc : 0 ≤ cell) (hl : L.length < sizeLine) : ∃ (x : Nat) (c' : Int) (y6 : Slot), x < 1009 ∧ 0 ≤ c' ∧
    bNum [scr, .sh (.int at_), q2, .sh (.int cell), .ow L, .sh (.int k), s6] = .nx [scr, .sh (.int at_), q2, .sh (.int c'), .ow (L ++ [.int x]), .sh (.int k), y6] := by
  by_cases hb : 1000000000000000000 ≤ cell
  · obtain ⟨x, hx, e⟩ := mod_nat cell 1009 (by omega)
    have e : cell.fmod 1009 = (x : Int) := e
    refine ⟨x, cell.fdiv 1009, s6, hx, ?_, ?_⟩
    · rw [Int.fdiv_eq_ediv_of_nonneg _ (by omega)]; omega
    · simp [ten18, hb, e, hl, pfdiv_ok' cell 1009 (by decide) (by decide)]
  · obtain ⟨m1, hm1, e1⟩ := mod_nat (cell * 48271 + (k + 1) * 69621 + at_ * 4001) 2147483647 (by omega)
    have e1 : (cell * 48271 + (k + 1) * 69621 + at_ * 4001).fmod 2147483647 = (m1 : Int) := e1
    obtain ⟨m2, hm2, e2⟩ := mod_nat ((m1 : Int) * m1 + 16807 * (k + 3)) 2147483629 (by omega)
    have e2 : ((m1 : Int) * m1 + 16807 * (k + 3)).fmod 2147483629 = (m2 : Int) := e2
    obtain ⟨x, hx, e3⟩ := mod_nat ((m2 : Int).fdiv 7) 1009 (by omega)
    have e3 : ((m2 : Int).fdiv 7).fmod 1009 = (x : Int) := e3
    refine ⟨x, cell, .sh (.int m2), hx, hc, ?_⟩
    simp [ten18, hb, hl, pmul_r cell 48271 (by decide), pmul_r (k + 1) 69621 (by decide), pmul_r at_ 4001 (by decide), e1, pmul_l (m1 : Int) m1 (by omega), pmul_l 16807 (k + 3) (by decide), e2, pfdiv_ok' (m2 : Int) 7 (by decide) (by decide), e3]
theorem num_loop (scr q2 : Slot) (at_ : Int) : ∀ (ks : List Int) (cell : Int) (acc : List Nat) (s5 s6 : Slot), 0 ≤ cell → acc.length + ks.length < sizeLine →
    ∃ (xs : List Nat) (c' : Int) (y5 y6 : Slot), xs.length = ks.length ∧ (∀ x ∈ xs, x < 1009) ∧ forL (gNam 5) bNum (ks.map PV.int) [scr, .sh (.int at_), q2, .sh (.int cell), .ow (natsP acc), s5, s6] = .nx [scr, .sh (.int at_), q2, .sh (.int c'), .ow (natsP (acc ++ xs)), y5, y6]
  | [], cell, acc, s5, s6, _, _ => ⟨[], cell, s5, s6, rfl, fun _ h => (by cases h), (by simp)⟩
  | k :: ks, cell, acc, s5, s6, hc, hl => by
    obtain ⟨x, c1, y6, hx, hc1, e⟩ := num_one scr q2 s6 at_ cell k (natsP acc) hc (by simp at hl ⊢; omega)
    have e4 : natsP acc ++ [PV.int (x : Int)] = natsP (acc ++ [x]) := by simp
    rw [e4] at e
    obtain ⟨xs, c2, z5, z6, h1, h2, e2⟩ := num_loop scr q2 at_ ks c1 (acc ++ [x]) (.sh (.int k)) y6 hc1 (by simp at hl ⊢; omega)
    refine ⟨x :: xs, c2, z5, z6, by simp [h1], fun z hz => ?_, ?_⟩
    · rcases List.mem_cons.mp hz with rfl | hz
      · exact hx
      · exact h2 z hz
    · rw [List.map_cons, ev_forC]
      simp only [ev_gNam, List.set_cons_succ, List.set_cons_zero]
      rw [e]
      simp only
      rw [e2]
      simp
theorem range_ints (n : Nat) : rangeP 0 n = ((List.range n).map fun (i : Nat) => (i : Int)).map PV.int := by
  simp [rangeP]
theorem numbers_ok (ns : List Int) (at_ count : Nat) (hc : count < 1000) : ∃ xs : List Nat, xs.length = count ∧ (∀ x ∈ xs, x < 1009) ∧ m_law_numbers [.fls (ns.map PV.int), .int at_, .int count] = .ok (.lst (natsP xs)) := by
  have hr := rng1_ok' count (by rw [sizeL]; omega)
  have hm := pmul_l 1000003 ((at_ : Int) + 1) (by decide)
  have key : ∀ (cell : Int), ∃ (xs : List Nat) (c' : Int) (y5 y6 : Slot), xs.length = count ∧ (∀ x ∈ xs, x < 1009) ∧ forL (gNam 5) bNum (rangeP 0 count) [.sh (.fls (ns.map PV.int)), .sh (.int at_), .sh (.int count), .sh (.int (if cell < 0 then 1 - 2 * cell else cell)), .ow [], .un, .un] = .nx [.sh (.fls (ns.map PV.int)), .sh (.int at_), .sh (.int count), .sh (.int c'), .ow (natsP xs), y5, y6] := fun cell => by
    obtain ⟨xs, c', y5, y6, h1, h2, e⟩ := num_loop (.sh (.fls (ns.map PV.int))) (.sh (.int count)) at_ ((List.range count).map fun (i : Nat) => (i : Int)) (if cell < 0 then 1 - 2 * cell else cell) [] .un .un (by split <;> omega) (by simp [sizeL]; omega)
    refine ⟨xs, c', y5, y6, by simpa using h1, h2, ?_⟩
    rw [range_ints]
    simpa using e
  by_cases h : at_ < ns.length
  · have h' : ((at_ : Int) < ns.length) := by omega
    obtain ⟨xs, c', y5, y6, h1, h2, e⟩ := key ns[at_]
    refine ⟨xs, h1, h2, ?_⟩
    by_cases hz : ns[at_] < 0
    · rw [if_pos hz] at e
      simp [m_law_numbers, b_law_numbers, mOf_def, hr, hm, h, h', hz, pmul_l 2 ns[at_] (by decide), e, sizeL]
    · rw [if_neg hz] at e
      simp [m_law_numbers, b_law_numbers, mOf_def, hr, hm, h, h', hz, e, sizeL]
  · have h' : ¬ ((at_ : Int) < ns.length) := by omega
    obtain ⟨xs, c', y5, y6, h1, h2, e⟩ := key (1000003 * ((at_ : Int) + 1))
    refine ⟨xs, h1, h2, ?_⟩
    have hz : ¬ (1000003 * ((at_ : Int) + 1) < 0) := by omega
    rw [if_neg hz] at e
    simp [m_law_numbers, b_law_numbers, mOf_def, hr, hm, h, h', hz, e, sizeL]
end K12
set_option Elab.async false
set_option linter.all false
set_option maxRecDepth 100000
set_option maxHeartbeats 1000000
namespace K12
open PySem PySem.Spec PyProof.Rows L2 Pu
def Li.to (P : Nat → Prop) : Li → Prop
  | .stop => True
  | .go t => P t
  | .up _ t => P t
  | .down _ t => P t
  | .zero _ t u => P t ∧ P u
def Li.re : Li → Li
  | .stop => .stop
  | .go _ => .go 0
  | .up j _ => .up j 0
  | .down j _ => .down j 0
  | .zero j _ _ => .zero j 0 0
def Row (w i : Nat) (l : Li) : Prop := l.isStop = false ∧ l.to fun t => t = i + 1 ∨ (i = 0 ∧ t = w)
noncomputable abbrev bRow : Pu.Env → O := (sSeq (sPar 5 6 (inF (pBin padd (pC (.int 1)) (pBin pmod (pBin pIxV (pVar 0) (pBin pmod (pBin padd (pBin pmul (pC (.int 2)) (pVar 4)) (pC (.int 1))) (pC (.int 36)))) (pC (.int 2))))) (inF (pBin padd (pVar 4) (pC (.int 3)))))
    (sApp 3 [] (pBin pIxV (unF (pLstF (pCons (pTup (pCons (pC (.str "up")) (pCons (pVar 5) (pCons (pVar 6) pNil)))) (pCons (pTup (pCons (pC (.str "go")) (pCons (pVar 6) pNil))) (pCons (pTup (pCons (pC (.str "zero")) (pCons (pVar 5) (pCons (pVar 6) (pCons (pVar 6) pNil))))) (pCons (pTup (pCons (pC (.str "down")) (pCons (pVar 5) (pCons (pVar 6) pNil)))) (pCons (pTup (pCons (pC (.str "up")) (pCons (pVar 5) (pCons (pVar 6) pNil)))) (pCons (pTup (pCons (pC (.str "zero")) (pCons (pVar 5) (pCons (pVar 6) (pCons (pVar 6) pNil))))) pNil)))))))) (pBin pmod (pBin pIxV (pVar 0) (pBin pmod (pBin pmul (pC (.int 2)) (pVar 4)) (pC (.int 36)))) (pC (.int 6))))))
theorem fmod_nat (a m : Nat) : (a : Int).fmod m = ((a % m : Nat) : Int) := by
  rw [Int.fmod_eq_emod_of_nonneg _ (by omega)]; rfl
theorem nat_at {xs : List Nat} {i : Nat} (h : i < xs.length) : (natsP xs)[i]? = some (.int (xs[i] : Nat)) := by simp [h]
theorem row_one (nums : List Nat) (hn : 36 ≤ nums.length) (k : Nat) (q1 q2 s5 s6 s7 : Slot) (L : List PV) (hl : L.length < sizeLine) (w : Nat) : ∃ (l : Li) (y5 y6 : Slot), Row w (k + 2) l ∧
    bRow [.sh (.lst (natsP nums)), q1, q2, .ow L, .sh (.int k), s5, s6, s7] = .nx [.sh (.lst (natsP nums)), q1, q2, .ow (L ++ [l.p]), .sh (.int k), y5, y6, s7] := by
  have a1 : (2 * k + 1) % 36 < nums.length := by have := Nat.mod_lt (2 * k + 1) (y := 36) (by omega); omega
  have a2 : (2 * k) % 36 < nums.length := by have := Nat.mod_lt (2 * k) (y := 36) (by omega); omega
  have b1 := nat_at a1
  have b2 := nat_at a2
  generalize nums[(2 * k + 1) % 36] = x at b1
  generalize nums[(2 * k) % 36] = y at b2
  have c1 : (2 * (k : Int) + 1).fmod 36 = (((2 * k + 1) % 36 : Nat) : Int) := fmod_nat (2 * k + 1) 36
  have c2 : (2 * (k : Int)).fmod 36 = (((2 * k) % 36 : Nat) : Int) := fmod_nat (2 * k) 36
  have c3 : (x : Int).fmod 2 = ((x % 2 : Nat) : Int) := fmod_nat x 2
  have c4 : (y : Int).fmod 6 = ((y % 6 : Nat) : Int) := fmod_nat y 6
  have hm := pmul_l 2 (k : Int) (by decide)
  have hj : 1 + x % 2 < 3 := by omega
  have e3 : (k : Int) + 3 = ((k + 2 + 1 : Nat) : Int) := by omega
  have ej : (1 : Int) + ((x % 2 : Nat) : Int) = ((1 + x % 2 : Nat) : Int) := by omega
  have base : ∀ (r : Nat) (l : Li), y % 6 = r → [PV.tup [.str "up", .int ((1 + x % 2 : Nat) : Int), .int ((k + 2 + 1 : Nat) : Int)], .tup [.str "go", .int ((k + 2 + 1 : Nat) : Int)], .tup [.str "zero", .int ((1 + x % 2 : Nat) : Int), .int ((k + 2 + 1 : Nat) : Int), .int ((k + 2 + 1 : Nat) : Int)], .tup [.str "down", .int ((1 + x % 2 : Nat) : Int), .int ((k + 2 + 1 : Nat) : Int)], .tup [.str "up", .int ((1 + x % 2 : Nat) : Int), .int ((k + 2 + 1 : Nat) : Int)], .tup [.str "zero", .int ((1 + x % 2 : Nat) : Int), .int ((k + 2 + 1 : Nat) : Int), .int ((k + 2 + 1 : Nat) : Int)]][r]? = some l.p → bRow [.sh (.lst (natsP nums)), q1, q2, .ow L, .sh (.int k), s5, s6, s7] = .nx [.sh (.lst (natsP nums)), q1, q2, .ow (L ++ [l.p]), .sh (.int k), .sh (.int ((1 + x % 2 : Nat) : Int)), .sh (.int ((k + 2 + 1 : Nat) : Int)), s7] := fun r l hr hl2 => by
    rw [hr] at c4
    simp only [natsP] at b1 b2
    simp [hm, c1, b1, c3, ej, e3, c2, b2, c4, sizeL, -Int.natCast_add, -Int.natCast_emod, -List.getElem?_map, -Int.natCast_mul]
    rw [hl2]
    have hat : l.p.atom = false := by cases l <;> rfl
    rw [sizeL] at hl
    simp [hl, hat]
  have h6 : y % 6 = 0 ∨ y % 6 = 1 ∨ y % 6 = 2 ∨ y % 6 = 3 ∨ y % 6 = 4 ∨ y % 6 = 5 := by omega
  rcases h6 with h | h | h | h | h | h
  · exact ⟨.up ⟨1 + x % 2, hj⟩ (k + 2 + 1), _, _, ⟨rfl, .inl rfl⟩, base 0 _ h rfl⟩
  · exact ⟨.go (k + 2 + 1), _, _, ⟨rfl, .inl rfl⟩, base 1 _ h rfl⟩
  · exact ⟨.zero ⟨1 + x % 2, hj⟩ (k + 2 + 1) (k + 2 + 1), _, _, ⟨rfl, .inl rfl, .inl rfl⟩, base 2 _ h rfl⟩
  · exact ⟨.down ⟨1 + x % 2, hj⟩ (k + 2 + 1), _, _, ⟨rfl, .inl rfl⟩, base 3 _ h rfl⟩
  · exact ⟨.up ⟨1 + x % 2, hj⟩ (k + 2 + 1), _, _, ⟨rfl, .inl rfl⟩, base 4 _ h rfl⟩
  · exact ⟨.zero ⟨1 + x % 2, hj⟩ (k + 2 + 1) (k + 2 + 1), _, _, ⟨rfl, .inl rfl, .inl rfl⟩, base 5 _ h rfl⟩
theorem row_loop (nums : List Nat) (hn : 36 ≤ nums.length) (q1 q2 s7 : Slot) (w : Nat) : ∀ (m k : Nat) (acc : List Li) (s4 s5 s6 : Slot), acc.length = k + 2 → (∀ i l, acc[i]? = some l → Row w i l) → acc.length + m < sizeLine →
    ∃ (rows : List Li) (y4 y5 y6 : Slot), rows.length = k + m + 2 ∧ (∀ i l, rows[i]? = some l → Row w i l) ∧
      forL (gNam 4) bRow ((List.range' k m).map fun (i : Nat) => PV.int i) [.sh (.lst (natsP nums)), q1, q2, .ow (acc.map Li.p), s4, s5, s6, s7] = .nx [.sh (.lst (natsP nums)), q1, q2, .ow (rows.map Li.p), y4, y5, y6, s7]
  | 0, k, acc, s4, s5, s6, ha, hr, _ => ⟨acc, s4, s5, s6, by simpa using ha, hr, rfl⟩
  | m + 1, k, acc, s4, s5, s6, ha, hr, hl => by
    obtain ⟨l, y5, y6, hw, e⟩ := row_one nums hn k q1 q2 s5 s6 s7 (acc.map Li.p) (by simp; omega) w
    obtain ⟨rows, z4, z5, z6, h1, h2, e2⟩ := row_loop nums hn q1 q2 s7 w m (k + 1) (acc ++ [l]) (.sh (.int k)) y5 y6 (by simp [ha]) (fun i x hx => by
      by_cases hi : i < acc.length
      · rw [List.getElem?_append_left hi] at hx; exact hr i x hx
      · rw [List.getElem?_append_right (by omega)] at hx
        have hi2 : i - acc.length = 0 := by
          by_cases z : i - acc.length = 0
          · exact z
          · rw [List.getElem?_eq_none (by simp; omega)] at hx; cases hx
        rw [hi2] at hx
        cases hx
        have : i = k + 2 := by omega
        rw [this]; exact hw) (by simp; omega)
    refine ⟨rows, z4, z5, z6, by omega, h2, ?_⟩
    rw [List.range'_succ, List.map_cons, ev_forC]
    simp only [ev_gNam, List.set_cons_succ, List.set_cons_zero]
    rw [e]
    simp only
    rw [show acc.map Li.p ++ [l.p] = (acc ++ [l]).map Li.p by simp]
    exact e2
noncomputable abbrev vLast : Pu.Env → R PV := (pBin padd (pBin padd (pTup (pCons (pBin pIxV (pVar 7) (pC (.int 0))) pNil)) (unF (pSli (pVar 7) (pPart (pC (.int 1))) (pPart (pBin psub (pBin psub (pCal plen (pCons (pVar 7) pNil)) (pC (.int 1))) (pCal pint (pCons (pBin peq (pBin pIxV (pVar 7) (pC (.int 0))) (pC (.str "zero"))) pNil))))))) (pBin pmul (pTup (pCons (pC (.int 0)) pNil)) (pBin padd (pC (.int 1)) (pCal pint (pCons (pBin peq (pBin pIxV (pVar 7) (pC (.int 0))) (pC (.str "zero"))) pNil)))))
theorem last_ok (l : Li) (h : l.isStop = false) (a b c d e f g : Slot) : vLast [a, b, c, d, e, f, g, .sh l.p] = .ok l.re.p := by
  cases l with
  | stop => cases h
  | go t => simp [Li.p, Li.re, padd, paddF, pmul, pmulF, cutP, HT.sIx, sizeL]
  | up j t => simp [Li.p, Li.re, padd, paddF, pmul, pmulF, cutP, HT.sIx, sizeL]
  | down j t => simp [Li.p, Li.re, padd, paddF, pmul, pmulF, cutP, HT.sIx, sizeL]
  | zero j t u => simp [Li.p, Li.re, padd, paddF, pmul, pmulF, cutP, HT.sIx, sizeL, List.replicate]
end K12
set_option Elab.async false
set_option linter.all false
set_option maxRecDepth 100000
set_option maxHeartbeats 1000000
namespace K12
open PySem PySem.Spec PyProof.Rows L2 Pu
def Ring (ls : List Li) : Prop := ∀ i l, ls[i]? = some l → i + 1 < ls.length → l.isStop = false ∧ l.to fun t => t = (if i + 2 = ls.length then 0 else i + 1) ∨ (i = 0 ∧ t + 1 = ls.length)
theorem to_imp {P Q : Nat → Prop} (h : ∀ t, P t → Q t) {l : Li} (hl : l.to P) : l.to Q := by
  cases l with
  | stop => trivial
  | go t => exact h _ hl
  | up j t => exact h _ hl
  | down j t => exact h _ hl
  | zero j t u => exact ⟨h _ hl.1, h _ hl.2⟩
theorem ok_of_to {n : Nat} {l : Li} (h : l.to (· < n)) : l.ok n := by
  cases l with
  | stop => trivial
  | go t => exact h
  | up j t => exact h
  | down j t => exact h
  | zero j t u => exact h
theorem re_to (l : Li) : l.re.to (· = 0) := by
  cases l with
  | stop => trivial
  | go t => rfl
  | up j t => rfl
  | down j t => rfl
  | zero j t u => exact ⟨rfl, rfl⟩
theorem re_stop (l : Li) : l.re.isStop = l.isStop := by cases l <;> rfl
theorem ends_ok {n : Nat} {init : List Li} {l : Li} (hn : init.length = n + 1) (h : ∀ i x, (init ++ [l])[i]? = some x → Row (n + 2) i x) (hm : n + 3 ≤ 1200) : Valid (init ++ [l.re] ++ [.stop]) ∧ Ring (init ++ [l.re] ++ [.stop]) := by
  have hlen : (init ++ [l.re] ++ [Li.stop]).length = n + 3 := by simp [hn]
  have hl : l.isStop = false := (h (n + 1) l (by rw [List.getElem?_append_right (by omega)]; simp [hn])).1
  have cs : ∀ i x, (init ++ [l.re] ++ [Li.stop])[i]? = some x → (i < n + 1 ∧ Row (n + 2) i x) ∨ (i = n + 1 ∧ x = l.re) ∨ (i = n + 2 ∧ x = .stop) := fun i x hx => by
    by_cases h1 : i < n + 1
    · refine .inl ⟨h1, h i x ?_⟩
      rw [List.append_assoc, List.getElem?_append_left (by omega)] at hx
      rw [List.getElem?_append_left (by omega)]
      exact hx
    · rw [List.append_assoc, List.getElem?_append_right (by omega)] at hx
      by_cases h2 : i = n + 1
      · have : i - init.length = 0 := by omega
        rw [this] at hx; cases hx
        exact .inr (.inl ⟨h2, rfl⟩)
      · by_cases h3 : i = n + 2
        · have : i - init.length = 1 := by omega
          rw [this] at hx; cases hx
          exact .inr (.inr ⟨h3, rfl⟩)
        · rw [List.getElem?_eq_none (by simp; omega)] at hx; cases hx
  have ring : Ring (init ++ [l.re] ++ [.stop]) := fun i x hx hi => by
    rw [hlen] at hi ⊢
    rcases cs i x hx with ⟨h1, h2⟩ | ⟨h1, h2⟩ | ⟨h1, h2⟩
    · refine ⟨h2.1, to_imp (fun t ht => ?_) h2.2⟩
      rw [if_neg (by omega)]
      rcases ht with ht | ⟨ht, ht2⟩
      · exact .inl ht
      · exact .inr ⟨ht, by omega⟩
    · subst h2
      refine ⟨by rw [re_stop]; exact hl, to_imp (fun t ht => ?_) (re_to l)⟩
      rw [if_pos (by omega)]
      exact .inl ht
    · omega
  refine ⟨⟨fun x hx => ?_, fun i x hx => ?_, by omega, by omega⟩, ring⟩
  · obtain ⟨i, hi, e⟩ := List.mem_iff_getElem.mp hx
    have hx2 : (init ++ [l.re] ++ [Li.stop])[i]? = some x := by rw [List.getElem?_eq_getElem hi, e]
    by_cases hz : i + 1 < (init ++ [l.re] ++ [Li.stop]).length
    · refine ok_of_to (to_imp (fun t ht => ?_) (ring i x hx2 hz).2)
      rw [hlen] at ht hz ⊢
      rcases ht with ht | ⟨_, ht⟩
      · split at ht <;> omega
      · omega
    · rcases cs i x hx2 with ⟨h1, h2⟩ | ⟨h1, h2⟩ | ⟨h1, h2⟩
      · rw [hlen] at hz; omega
      · rw [hlen] at hz; omega
      · subst h2; trivial
  · rw [hlen]
    rcases cs i x hx with ⟨h1, h2⟩ | ⟨h1, h2⟩ | ⟨h1, h2⟩
    · rw [h2.1, eq_comm, decide_eq_false_iff_not]; omega
    · subst h2; rw [re_stop, hl, eq_comm, decide_eq_false_iff_not]; omega
    · subst h2; rw [eq_comm]; exact decide_eq_true (by omega)
theorem loop_tail (nums : List Nat) (hn : 36 ≤ nums.length) (wide : Nat) (hw : wide < 1000) (q2 : Slot) (a b : Li) (ha : Row (wide + 2) 0 a) (hb : Row (wide + 2) 1 b) : ∃ (ls : List Li), Valid ls ∧ Ring ls ∧ ls.length = wide + 3 ∧
    (match (sSeq (sFor [] (pIt rng1 (pCons (pVar 1) pNil)) (gNam 4) bRow)
    (sSeq (sSet 7 [] (inF (pIxO 3 (pUn pneg (pC (.int 1))))))
    (sSeq (sSetIx 3 [] (pUn pneg (pC (.int 1))) vLast)
    (sRet [3] (unF (pBinF paddF (pVar 3) (unF (pLstF (pCons (pTup (pCons (pC (.str "stop")) pNil)) pNil))))))))) [.sh (.lst (natsP nums)), .sh (.int wide), q2, .ow [a.p, b.p], .un, .un, .un, .un] with | .rt p _ => some p | _ => none) = some (linesP ls) := by
  have hr := rng1_ok' wide (by rw [sizeL]; omega)
  obtain ⟨rows, y4, y5, y6, h1, h2, e⟩ := row_loop nums hn (.sh (.int wide)) q2 .un (wide + 2) wide 0 [a, b] .un .un .un rfl (fun i l h => by
    rcases i with _ | _ | i
    · cases h; exact ha
    · cases h; exact hb
    · simp at h) (by rw [sizeL]; simp; omega)
  have er : rangeP 0 wide = (List.range' 0 wide).map fun (i : Nat) => PV.int i := by simp [rangeP, List.range_eq_range']
  rw [← er] at e
  obtain ⟨init, l, rfl⟩ : ∃ init l, rows = init ++ [l] := by
    rcases List.eq_nil_or_concat rows with h | ⟨i, l, h⟩
    · subst h; simp at h1
    · exact ⟨i, l, by simpa using h⟩
  have hi : init.length = wide + 1 := by simp at h1; omega
  obtain ⟨v, r⟩ := ends_ok hi h2 (by omega)
  refine ⟨_, v, r, by simp [hi], ?_⟩
  have hl : l.isStop = false := (h2 (wide + 1) l (by rw [List.getElem?_append_right (by omega)]; simp [hi])).1
  have hat : l.p.atom = false := by cases l <;> rfl
  have hat2 : l.re.p.atom = false := by cases l <;> rfl
  have hix : ixN (wide + 1 + 1) (-1) = some (wide + 1) := by
    unfold ixN
    rw [if_neg (by omega), if_pos (by omega)]
    congr 1
    omega
  have hset : (init.map Li.p ++ [l.p]).set (wide + 1) l.re.p = init.map Li.p ++ [l.re.p] := by
    rw [List.set_append_right _ _ (by simp; omega)]
    simp [hi]
  have hv := last_ok l hl (.sh (.lst (natsP nums))) (.sh (.int wide)) q2 (.ow (init.map Li.p ++ [l.p])) y4 y5 y6
  simp only [List.map_cons, List.map_nil, List.map_append] at e
  generalize vLast = vl at hv ⊢
  have hs : Li.p .stop = .tup [.str "stop"] := rfl
  have hsz : wide + 1 + 1 + 1 ≤ 16777216 := by omega
  rw [ev_sSeq, ev_sFor, frzs_nil]
  rw [show (pIt rng1 (pCons (pVar 1) pNil)) [.sh (.lst (natsP nums)), .sh (.int wide), q2, .ow [a.p, b.p], .un, .un, .un, .un] = rng1 [.int wide] from rfl, hr]
  simp only [e]
  simp [hix, hat, hat2, hi, hset, sizeL, paddF, hsz, hs, hv]
end K12
set_option Elab.async false
set_option linter.all false
set_option maxRecDepth 100000
set_option maxHeartbeats 1000000
namespace K12
open PySem PySem.Spec PyProof.Rows L2 Pu
noncomputable abbrev tLoop : Pu.Env → O := (sSeq (sFor [] (pIt rng1 (pCons (pVar 1) pNil)) (gNam 4) bRow)
    (sSeq (sSet 7 [] (inF (pIxO 3 (pUn pneg (pC (.int 1))))))
    (sSeq (sSetIx 3 [] (pUn pneg (pC (.int 1))) vLast)
    (sRet [3] (unF (pBinF paddF (pVar 3) (unF (pLstF (pCons (pTup (pCons (pC (.str "stop")) pNil)) pNil)))))))))
theorem loop_eq : b_law_loop = (sSeq (sSet 3 [] (pLstF (pCons (pTup (pCons (pC (.str "zero")) (pCons (pC (.int 0)) (pCons (pBin padd (pVar 1) (pC (.int 2))) (pCons (pC (.int 1)) pNil))))) (pCons (pTup (pCons (pC (.str "down")) (pCons (pC (.int 0)) (pCons (pC (.int 2)) pNil)))) pNil))))
    (sSeq (sIf [] (pTr (pVar 2)) (sSet 3 [] (pLstF (pCons (pTup (pCons (pC (.str "zero")) (pCons (pC (.int 0)) (pCons (pC (.int 1)) (pCons (pC (.int 1)) pNil))))) (pCons (pTup (pCons (pC (.str "go")) (pCons (pC (.int 2)) pNil))) pNil)))) sNx) tLoop)) := rfl
theorem loop_ok (nums : List Nat) (hn : 36 ≤ nums.length) (wide : Nat) (hw : wide < 1000) (endless : Bool) : ∃ ls, m_law_loop [.lst (natsP nums), .int wide, .bl endless] = .ok (linesP ls) ∧ Valid ls ∧ Ring ls ∧ ls.length = wide + 3 := by
  cases endless with
  | true =>
    obtain ⟨ls, v, r, hl, e⟩ := loop_tail nums hn wide hw (.sh (.bl true)) (.zero 0 1 1) (.go 2) ⟨rfl, .inl rfl, .inl rfl⟩ ⟨rfl, .inl rfl⟩
    refine ⟨ls, ?_, v, r, hl⟩
    have e : (match tLoop [.sh (.lst (natsP nums)), .sh (.int wide), .sh (.bl true), .ow [.tup [.str "zero", .int 0, .int 1, .int 1], .tup [.str "go", .int 2]], .un, .un, .un, .un] with | .rt p _ => some p | _ => none) = some (linesP ls) := e
    unfold m_law_loop
    rw [loop_eq]
    generalize tLoop = T at e ⊢
    cases z : T [.sh (.lst (natsP nums)), .sh (.int wide), .sh (.bl true), .ow [.tup [.str "zero", .int 0, .int 1, .int 1], .tup [.str "go", .int 2]], .un, .un, .un, .un] with
    | rt p r =>
      rw [z] at e
      cases e
      simp [mOf_def, sizeL, z]
    | _ => rw [z] at e; cases e
  | false =>
    obtain ⟨ls, v, r, hl, e⟩ := loop_tail nums hn wide hw (.sh (.bl false)) (.zero 0 (wide + 2) 1) (.down 0 2) ⟨rfl, .inr ⟨rfl, rfl⟩, .inl rfl⟩ ⟨rfl, .inl rfl⟩
    refine ⟨ls, ?_, v, r, hl⟩
    have e : (match tLoop [.sh (.lst (natsP nums)), .sh (.int wide), .sh (.bl false), .ow [.tup [.str "zero", .int 0, .int ((wide : Int) + 2), .int 1], .tup [.str "down", .int 0, .int 2]], .un, .un, .un, .un] with | .rt p _ => some p | _ => none) = some (linesP ls) := e
    unfold m_law_loop
    rw [loop_eq]
    generalize tLoop = T at e ⊢
    cases z : T [.sh (.lst (natsP nums)), .sh (.int wide), .sh (.bl false), .ow [.tup [.str "zero", .int 0, .int ((wide : Int) + 2), .int 1], .tup [.str "down", .int 0, .int 2]], .un, .un, .un, .un] with
    | rt p r =>
      rw [z] at e
      cases e
      simp [mOf_def, sizeL, z]
    | _ => rw [z] at e; cases e
/-! ### runs, on paper -/
theorem act_down {l : Li} {s s' : St} (h : l.act s = .st s') : ∀ j u, l = .down j u → s.get j ≠ 0 := fun j u e z => by
  subst e
  simp [Li.act, z] at h
theorem trail_cons {ls : List Li} : ∀ (n : Nat) (s : St), ∀ x ∈ (s :: trail ls n s).dropLast, ∃ s', nxt ls x = .st s'
  | 0, s, x, h => by simp [trail] at h
  | n + 1, s, x, h => by
    unfold trail at h
    cases z : nxt ls s with
    | st s2 =>
      rw [z] at h
      simp only [List.dropLast_cons₂] at h
      rcases List.mem_cons.mp h with rfl | h
      · exact ⟨s2, z⟩
      · exact trail_cons n s2 x h
    | stopped => rw [z] at h; simp at h
    | stuck => rw [z] at h; simp at h
theorem nxt_has {ls : List Li} {x s' : St} (h : nxt ls x = .st s') : x.i < ls.length ∧ ∀ j u, lineAt ls x.i = .down j u → x.get j ≠ 0 := by
  unfold nxt at h
  cases z : ls[x.i]? with
  | none => rw [z] at h; cases h
  | some l =>
    rw [z] at h
    refine ⟨(List.getElem?_eq_some_iff.mp z).1, fun j u e => act_down h j u ?_⟩
    simpa [lineAt, z] using e
theorem act_grow {l : Li} {s s' : St} (h : l.act s = .st s') (j : Fin 3) : ((s'.get j : Int) - s.get j).natAbs ≤ 1 := by
  cases l with
  | stop => cases h
  | go t => cases h; rcases j with ⟨_ | _ | _ | j, hj⟩ <;> simp [St.get] <;> omega
  | up i t =>
    cases h
    rcases i with ⟨_ | _ | _ | i, hi⟩ <;> rcases j with ⟨_ | _ | _ | j, hj⟩ <;> simp [St.get, St.put] <;> omega
  | zero i t u => cases h; rcases j with ⟨_ | _ | _ | j, hj⟩ <;> simp [St.get] <;> omega
  | down i t =>
    simp only [Li.act] at h
    split at h
    · cases h
    · cases h
      rcases i with ⟨_ | _ | _ | i, hi⟩ <;> rcases j with ⟨_ | _ | _ | j, hj⟩ <;> simp [St.get, St.put] <;> omega
theorem nxt_grow {ls : List Li} {s s' : St} (h : nxt ls s = .st s') (j : Fin 3) : ((s'.get j : Int) - s.get j).natAbs ≤ 1 := by
  unfold nxt at h
  cases z : ls[s.i]? with
  | none => rw [z] at h; cases h
  | some l => rw [z] at h; exact act_grow h j
theorem trail_grow {ls : List Li} : ∀ (n : Nat) (s t : St) (m : Nat), (s :: trail ls n s)[m]? = some t → ∀ j, ((grw s t).get j).natAbs ≤ m
  | n, s, t, 0, h, j => by cases h; rw [grw_get]; omega
  | 0, s, t, m + 1, h, j => by simp [trail] at h
  | n + 1, s, t, m + 1, h, j => by
    unfold trail at h
    cases z : nxt ls s with
    | st s2 =>
      rw [z] at h
      have := trail_grow n s2 t m (by simpa using h) j
      have g := nxt_grow z j
      rw [grw_get] at this ⊢
      omega
    | stopped => rw [z] at h; simp at h
    | stuck => rw [z] at h; simp at h
end K12
set_option Elab.async false
set_option linter.all false
set_option maxRecDepth 100000
set_option maxHeartbeats 1000000
namespace K12
open PySem PySem.Spec PyProof.Rows L2 Pu
theorem all_i {ls : List Li} (g : Good ls) : ∀ (n : Nat) (s : St), s.i < ls.length → ∀ x ∈ s :: trail ls n s, x.i < ls.length
  | 0, s, h, x, hx => by simp [trail] at hx; subst hx; exact h
  | n + 1, s, h, x, hx => by
    rcases List.mem_cons.mp hx with rfl | hx
    · exact h
    · unfold trail at hx
      cases z : nxt ls s with
      | st s2 => rw [z] at hx; exact all_i g n s2 (nxt_i g z) x hx
      | stopped => rw [z] at hx; cases hx
      | stuck => rw [z] at hx; cases hx
theorem trail_step {ls : List Li} : ∀ (n : Nat) (s : St) (k : Nat) (x y : St), (s :: trail ls n s)[k]? = some x → (s :: trail ls n s)[k + 1]? = some y → nxt ls x = .st y
  | 0, s, k, x, y, h1, h2 => by simp [trail] at h2
  | n + 1, s, k, x, y, h1, h2 => by
    unfold trail at h1 h2
    cases z : nxt ls s with
    | st s2 =>
      rw [z] at h1 h2
      cases k with
      | zero => cases h1; cases h2; exact z
      | succ k => exact trail_step n s2 k x y (by simpa using h1) (by simpa using h2)
    | stopped => rw [z] at h2; simp at h2
    | stuck => rw [z] at h2; simp at h2
theorem take_drop {α : Type} (S : List α) (m : Nat) {x : α} (h : x ∈ (S.take m).dropLast) : x ∈ S.dropLast := by
  rw [List.dropLast_eq_take] at h ⊢
  obtain ⟨i, hi, e⟩ := List.mem_take_iff_getElem.mp h
  rw [List.getElem_take] at e
  rw [List.length_take] at hi
  exact List.mem_take_iff_getElem.mpr ⟨i, by omega, e⟩
/-- a beginning of a run: the program's answer and the law's -/
theorem agree {ls : List Li} (g : Good ls) (n : Nat) (hn : n < 100000) (s : St) (hi : s.i < ls.length) (m : Nat) : ∃ d : Option Int, m_most_times [machP ls, .lst (((s :: trail ls n s).take (m + 1)).map St.p)] = .ok (optP d) ∧ m_law_due [linesP ls, .lst (((s :: trail ls n s).take (m + 1)).map St.p)] = .ok (optP d) := by
  have hlen : (s :: trail ls n s).length ≤ n + 1 := by have := (trail_len ls n s).1; simp; omega
  have hv := fun x (hx : x ∈ (s :: trail ls n s)) => all_i g n s hi x hx
  have hd := fun x (hx : x ∈ (s :: trail ls n s).dropLast) => trail_cons n s x hx
  have hg := trail_grow (ls := ls) n s
  have hh : ((s :: trail ls n s).take (m + 1)).head? = some s := rfl
  have hp : ((s :: trail ls n s).take (m + 1)).length = min (m + 1) (s :: trail ls n s).length := List.length_take ..
  have ht := fun x (hx : x ∈ ((s :: trail ls n s).take (m + 1)).dropLast) => take_drop _ _ hx
  have hs := fun x (hx : x ∈ ((s :: trail ls n s).take (m + 1))) => (List.take_sublist (m + 1) (s :: trail ls n s)).subset hx
  have hat : ∀ k, k < ((s :: trail ls n s).take (m + 1)).length → ((s :: trail ls n s).take (m + 1))[k]? = (s :: trail ls n s)[k]? := fun k hk => by
    rw [List.getElem?_take, if_pos (by omega)]
  generalize hP : (s :: trail ls n s).take (m + 1) = P at *
  obtain ⟨t, e⟩ : ∃ t, P.getLast? = some t := by
    cases z : P.getLast? with
    | none => rw [List.getLast?_eq_none_iff] at z; subst z; cases hh
    | some t => exact ⟨t, rfl⟩
  by_cases hc : P.length < 2 ∨ s.i ≠ t.i
  · have hc' : P.length < 2 ∨ ∃ s t, P.head? = some s ∧ P.getLast? = some t ∧ s.i ≠ t.i := hc.imp id fun h => ⟨s, t, hh, e, h⟩
    exact ⟨some 0, most_zero ls P hc', due_zero ls P hc'⟩
  · have h1 : 2 ≤ P.length := by
      by_cases z : P.length < 2
      · exact absurd (.inl z) hc
      · omega
    have h2 : s.i = t.i := by
      by_cases z : s.i = t.i
      · exact z
      · exact absurd (.inr z) hc
    have hgr : ∀ j, ((grw s t).get j).natAbs < 1073741824 := fun j => by
      have e2 : P[P.length - 1]? = some t := by rw [← List.getLast?_eq_getElem?]; exact e
      rw [hat _ (by omega)] at e2
      have := hg t _ e2 j
      omega
    refine ⟨dueL ls P.dropLast (grw s t), most_two ls P s t h1 hh e h2 (fun x hx => hv x (hs x hx)) hgr (by rw [sizeL]; omega), due_two ls P s t h1 hh e h2 (fun x hx => ?_) hgr⟩
    obtain ⟨s', z⟩ := hd x (ht x hx)
    exact nxt_has z
/-- round the ring -/
theorem ring_at {ls : List Li} (v : Valid ls) (r : Ring ls) (w : Nat) (hw : ls.length = w + 1) (h2 : 2 ≤ w) (n : Nat) (s : St) (h0 : s.i = 0) : ∀ (k : Nat) (x : St), (s :: trail ls n s)[k]? = some x → x.i = k % w ∨ (x.i = w ∧ 1 ≤ k ∧ (k - 1) % w = 0)
  | 0, x, h => by cases h; left; simp [h0]
  | k + 1, x, h => by
    obtain ⟨y, hy⟩ : ∃ y, (s :: trail ls n s)[k]? = some y := by
      have hk : k + 1 < (s :: trail ls n s).length := (List.getElem?_eq_some_iff.mp h).1
      exact ⟨_, List.getElem?_eq_getElem (by omega)⟩
    have e := trail_step n s k y x hy h
    unfold nxt at e
    cases z : ls[y.i]? with
    | none => rw [z] at e; cases e
    | some l =>
      rw [z] at e
      have hs := v.stop y.i l z
      have hyl := (List.getElem?_eq_some_iff.mp z).1
      have hns : l.isStop = false := by
        cases l with
        | stop => cases e
        | _ => rfl
      have hyw : y.i < w := by
        rw [hns] at hs
        have := of_decide_eq_false hs.symm
        omega
      have hyk : y.i = k % w := by
        rcases ring_at v r w hw h2 n s h0 k y hy with h | h
        · exact h
        · omega
      have ht := (r y.i l z (by omega)).2
      have hx : x.i = (if y.i + 2 = ls.length then 0 else y.i + 1) ∨ (y.i = 0 ∧ x.i + 1 = ls.length) := by
        cases l with
        | stop => cases e
        | go t => cases e; exact ht
        | up j t => cases e; rw [put_i]; exact ht
        | down j t =>
          simp only [Li.act] at e
          split at e
          · cases e
          · cases e; rw [put_i]; exact ht
        | zero j t u =>
          cases e
          show (if _ then t else u) = _ ∨ (_ ∧ (if _ then t else u) + 1 = _)
          split
          · exact ht.1
          · exact ht.2
      rcases hx with hx | ⟨hx, hx2⟩
      · left
        rw [hx]
        have hkw := Nat.mod_lt k (show 0 < w by omega)
        by_cases hz : y.i + 2 = ls.length
        · rw [if_pos hz]
          rw [Nat.add_mod, ← hyk, Nat.mod_eq_of_lt (show 1 < w by omega), show y.i + 1 = w by omega, Nat.mod_self]
        · rw [if_neg hz]
          rw [Nat.add_mod, ← hyk, Nat.mod_eq_of_lt (show 1 < w by omega), Nat.mod_eq_of_lt (by omega)]
      · right
        exact ⟨by omega, by omega, by rw [Nat.add_sub_cancel, ← hyk]; exact hx⟩
theorem ring_end {ls : List Li} (v : Valid ls) (r : Ring ls) (w : Nat) (hw : ls.length = w + 1) (h2 : 2 ≤ w) (m : Nat) (s : St) (h0 : s.i = 0) (x : St) (h : (s :: trail ls (m * w + w) s)[m * w + w]? = some x) : x.i = 0 := by
  rcases ring_at v r w hw h2 _ s h0 _ x h with h | ⟨_, _, h⟩
  · rw [h, ← Nat.succ_mul]; simp
  · have : m * w + w - 1 = (w - 1) + w * m := by rw [Nat.mul_comm]; omega
    rw [this, Nat.add_mul_mod_self_left, Nat.mod_eq_of_lt (by omega)] at h
    omega
end K12
set_option Elab.async false
set_option linter.all false
set_option maxRecDepth 100000
set_option maxHeartbeats 1000000
namespace K12
open PySem PySem.Spec PyProof.Rows L2 Pu
theorem same_eq (n : Nat) (ps : List PV) : m_law_same (n + 1) ps = mOf 2 3 (b_law_same (m_law_same n)) ps := rfl
theorem same_int (n : Nat) (a : Int) : m_law_same (n + 1) [.int a, .int a] = .ok (.bl true) := by
  rw [same_eq]; simp [mOf_def, b_law_same, PV.isNon, PV.isBl, isiT, tyKnown]
theorem same_non (n : Nat) : m_law_same (n + 1) [.non, .non] = .ok (.bl true) := by
  rw [same_eq]; simp [mOf_def, b_law_same, PV.isNon, PV.isBl, isiT, tyKnown]
theorem rng3 : rng1 [.int 3] = .ok [.int 0, .int 1, .int 2] := rng1_ok' 3 (by decide)
theorem rng2' : rng1 [.int 2] = .ok [.int 0, .int 1] := rng1_ok' 2 (by decide)
theorem same_nums (n : Nat) (a b c : Int) : m_law_same (n + 2) [.tup [.int a, .int b, .int c], .tup [.int a, .int b, .int c]] = .ok (.bl true) := by
  rw [same_eq]; simp [mOf_def, b_law_same, PV.isNon, PV.isBl, isiT, tyKnown, rng3, ev_forC, same_int]
theorem same_state (n : Nat) (i a b c : Int) : m_law_same (n + 3) [.tup [.int i, .tup [.int a, .int b, .int c]], .tup [.int i, .tup [.int a, .int b, .int c]]] = .ok (.bl true) := by
  rw [same_eq]; simp [mOf_def, b_law_same, PV.isNon, PV.isBl, isiT, tyKnown, rng2', ev_forC, same_int, same_nums]
theorem same_end (n : Nat) (i a b c k : Int) : m_law_same (n + 4) [.tup [.tup [.int i, .tup [.int a, .int b, .int c]], .int k], .tup [.tup [.int i, .tup [.int a, .int b, .int c]], .int k]] = .ok (.bl true) := by
  rw [same_eq]; simp [mOf_def, b_law_same, PV.isNon, PV.isBl, isiT, tyKnown, rng2', ev_forC, same_int, same_state]
theorem same_opt (n : Nat) (d : Option Int) : m_law_same (n + 1) [optP d, optP d] = .ok (.bl true) := by
  cases d with
  | none => exact same_non n
  | some i => exact same_int n i
theorem in_int2 (x a b : Int) (neg : Bool) : pin neg (.int x) (.tup [.int a, .int b]) = .ok (.bl (xor neg (decide (a = x) || decide (b = x)))) := by
  simp [pin, inSeq, PV.flat, eqD, PV.dat, PyData.eqv]
  rw [show ((a == x) = decide (a = x)) from Bool.beq_eq_decide_eq a x, show ((b == x) = decide (b = x)) from Bool.beq_eq_decide_eq b x]
theorem piece_leap (a b : Int) (ha : 1 ≤ a) (hb : 1 ≤ b) : m_is_piece [.tup [.str "leap", .int a, .int b]] = .ok (.bl (decide (a ≤ 400))) := by
  have h1 : 0 ≤ a := by omega
  have h2 : 0 ≤ b := by omega
  have h3 : ¬ (min a b < 1) := by omega
  simp [m_is_piece, b_is_piece, mOf_def, isiT, tyKnown, in_int2, cutP, HT.sIx, is_whole_int, pall, bools, h1, h2, pmin, pminI, intsP, minOf, h3, sizeL]
theorem piece_step (a : Int) (ha : 1 ≤ a) : m_is_piece [.tup [.str "step", .int a]] = .ok (.bl (decide (a ≤ 5000))) := by
  have h1 : 0 ≤ a := by omega
  have h3 : ¬ (a < 1) := by omega
  simp [m_is_piece, b_is_piece, mOf_def, isiT, tyKnown, in_int2, cutP, HT.sIx, is_whole_int, pall, bools, h1, pmin, pminI, intsP, minOf, h3, sizeL]
theorem leapt_ok (s : St) (d : Gr) (hd : ∀ j, (d.get j).natAbs < 1073741824) (t : Int) : m_leapt [s.p, d.p, .int t] = .ok (.tup [.int s.i, .tup [.int (s.a + t * d.a), .int (s.b + t * d.b), .int (s.c + t * d.c)]]) := by
  have h0 : d.a.natAbs < 1073741824 := hd 0
  have h1 : d.b.natAbs < 1073741824 := hd 1
  have h2 : d.c.natAbs < 1073741824 := hd 2
  have e3 : zip2 [s.nums, d.p] = .ok [.tup [.int s.a, .int d.a], .tup [.int s.b, .int d.b], .tup [.int s.c, .int d.c]] := rfl
  simp [m_leapt, b_leapt, mOf_def, e3, pmul_r t d.a (by omega), pmul_r t d.b (by omega), pmul_r t d.c (by omega), sizeL]
/-- a full turn of the ring -/
structure Turn (ls : List Li) (n : Nat) (s t : St) : Prop where
  v : Valid ls
  hi : s.i < ls.length
  n1 : 1 ≤ n
  n2 : n < 2000
  full : (trail ls n s).length = n
  last : (s :: trail ls n s).getLast? = some t
  same : s.i = t.i
section
variable {ls : List Li} {n : Nat} {s t : St}
theorem Turn.gr (T : Turn ls n s t) (j : Fin 3) : ((grw s t).get j).natAbs < 1073741824 := by
  have e := T.last
  rw [List.getLast?_eq_getElem?] at e
  have := trail_grow n s t _ e j
  have h := T.full
  have := T.n2
  simp only [List.length_cons] at *
  omega
abbrev statesP (ls : List Li) (n : Nat) (s : St) : PV := .lst ((s :: trail ls n s).map St.p)
def dueT (ls : List Li) (n : Nat) (s t : St) : Option Int := dueL ls (s :: trail ls n s).dropLast (grw s t)
theorem Turn.most (T : Turn ls n s t) : m_most_times [machP ls, statesP ls n s] = .ok (optP (dueT ls n s t)) := by
  have := T.full
  have := T.n1
  have := T.n2
  exact most_two ls _ s t (by simp; omega) rfl T.last T.same (all_i T.v.good n s T.hi) T.gr (by rw [sizeL]; simp; omega)
theorem Turn.due (T : Turn ls n s t) : m_law_due [linesP ls, statesP ls n s] = .ok (optP (dueT ls n s t)) := by
  have := T.full
  have := T.n1
  refine due_two ls _ s t (by simp; omega) rfl T.last T.same (fun x hx => ?_) T.gr
  obtain ⟨s', z⟩ := trail_cons n s x hx
  exact nxt_has z
theorem min_pos : ∀ (ns : List Int) (a : Int), 1 ≤ a → (∀ x ∈ ns, 1 ≤ x) → 1 ≤ minOf a ns
  | [], a, h, _ => h
  | x :: ns, a, h, hx => min_pos ns (min a x) (by have := hx x (List.mem_cons_self ..); omega) fun y hy => hx y (List.mem_cons_of_mem _ hy)
theorem times_pos {z : Bool} {x d v : Int} (hx : 0 ≤ x) (hz : z = false → x ≠ 0) (h : timesI z x d = some v) : 1 ≤ v := by
  unfold timesI at h
  split at h
  · split at h
    · cases h
    · cases h; omega
  · rename_i hc
    split at h
    · cases h
    · cases h
      have hx1 : x ≠ 0 := fun e => by
        cases z with
        | true => exact hc ⟨rfl, e⟩
        | false => exact hz rfl e
      have h0 : 0 ≤ (x - 1).fdiv (-d) := by
        rw [Int.fdiv_eq_ediv_of_nonneg _ (by omega)]
        exact Int.ediv_nonneg (by omega) (by omega)
      omega
theorem Turn.pos (T : Turn ls n s t) {v : Int} (h : dueT ls n s t = some v) : 1 ≤ v := by
  unfold dueT dueL at h
  have hall : ∀ y ∈ (((s :: trail ls n s).dropLast.map fun x => tf (lineAt ls x.i) x (grw s t)).filterMap id), 1 ≤ y := fun y hy => by
    obtain ⟨o, ho, e⟩ := List.mem_filterMap.mp hy
    obtain ⟨x, hx, e2⟩ := List.mem_map.mp ho
    cases e
    obtain ⟨s', z⟩ := trail_cons n s x hx
    have hp := (nxt_has z).2
    generalize lineAt ls x.i = l at *
    cases l with
    | stop => cases e2
    | go t => cases e2
    | up j t => cases e2
    | down j u => exact times_pos (by omega) (fun _ => by have := hp j u rfl; omega) e2
    | zero j u w => exact times_pos (by omega) (fun e => by cases e) e2
  generalize (((s :: trail ls n s).dropLast.map fun x => tf (lineAt ls x.i) x (grw s t)).filterMap id) = ns at *
  cases ns with
  | nil => cases h
  | cons n0 ns =>
    cases h
    exact min_pos ns n0 (hall n0 (List.mem_cons_self ..)) fun y hy => hall y (List.mem_cons_of_mem _ hy)
def leapP (s t : St) (k : Int) : PV := .tup [.int s.i, .tup [.int (s.a + k * (grw s t).a), .int (s.b + k * (grw s t).b), .int (s.c + k * (grw s t).c)]]
theorem Turn.leap (T : Turn ls n s t) (hn : n ≤ 400) (k : Int) (hk : 1 ≤ k) : m_state_behind [machP ls, s.p, .tup [.str "leap", .int n, .int k]] = .ok (match dueT ls n s t with | some v => if v < k then .non else leapP s t k | none => leapP s t k) := by
  have := T.n1
  have hp := piece_leap n k (by omega) hk
  have hn' : ((n : Int) ≤ 400) := by omega
  have hr := round_ok T.v.good s T.hi n (by rw [sizeL]; omega) T.full
  have hm := T.most
  have hl := leapt_ok s (grw s t) T.gr k
  have hg := grown_ok (s :: trail ls n s) s t rfl T.last
  simp only [statesP] at hm
  simp only [List.map_cons] at hr hm hg
  cases hd : dueT ls n s t with
  | none =>
    rw [hd] at hm
    simp only [optP] at hm
    simp [m_state_behind, b_state_behind, mOf_def, check_ok ls s T.hi, hp, hn, hn', hr, hm, hl, hg, PV.isNon, leapP]
  | some v =>
    rw [hd] at hm
    simp only [optP] at hm
    by_cases hv : v < k
    · simp [m_state_behind, b_state_behind, mOf_def, check_ok ls s T.hi, hp, hn, hn', hr, hm, hl, hg, PV.isNon, leapP, hv]
    · simp [m_state_behind, b_state_behind, mOf_def, check_ok ls s T.hi, hp, hn, hn', hr, hm, hl, hg, PV.isNon, leapP, hv]
theorem Turn.refused (T : Turn ls n s t) (hn : 400 < n) : m_law_refused [machP ls, s.p, .tup [.str "leap", .int n, .int 1]] = .ok (.bl true) := by
  have hp := piece_leap n 1 (by omega) (by omega)
  have hn' : ¬ ((n : Int) ≤ 400) := by omega
  have hn2 : ¬ (n ≤ 400) := by omega
  have hb : m_state_behind [machP ls, s.p, .tup [.str "leap", .int n, .int 1]] = .exc ⟨"BadNumber", []⟩ := by
    simp [m_state_behind, b_state_behind, mOf_def, check_ok ls s T.hi, hp, hn', hn2]
  simp [m_law_refused, b_law_refused, mOf_def, hb, List.lookup, noxO]
theorem Turn.steps (T : Turn ls n s t) : m_state_behind [machP ls, s.p, .tup [.str "step", .int n]] = .ok t.p := by
  have := T.n1
  have := T.n2
  have hp := piece_step n (by omega)
  have hn' : ((n : Int) ≤ 5000) := by omega
  have hn2 : n ≤ 5000 := by omega
  have hr := round_ok T.v.good s T.hi n (by rw [sizeL]; omega) T.full
  have e2 : ((s :: trail ls n s).map St.p).getLast? = some t.p := by rw [List.getLast?_map, T.last]; rfl
  simp only [List.map_cons] at hr e2
  simp [m_state_behind, b_state_behind, mOf_def, check_ok ls s T.hi, hp, hn', hn2, hr, e2, PV.isNon]
end
end K12
set_option Elab.async false
set_option linter.all false
set_option maxRecDepth 100000
set_option maxHeartbeats 1000000
namespace K12
open PySem PySem.Spec PyProof.Rows L2 Pu
section
variable {ls : List Li} {n : Nat} {s t : St}
@[simp] theorem nums0 (s : St) : pIxV s.nums (.int 0) = .ok (.int s.a) := rfl
@[simp] theorem nums1 (s : St) : pIxV s.nums (.int 1) = .ok (.int s.b) := rfl
@[simp] theorem nums2 (s : St) : pIxV s.nums (.int 2) = .ok (.int s.c) := rfl
@[simp] theorem lenN (s : St) : plen [s.nums] = .ok (.int 3) := rfl
@[simp] theorem at_leap (s t : St) (k : Int) : (leapP s t k).atom = false := rfl
@[simp] theorem non_leap (s t : St) (k : Int) : (leapP s t k).isNon = false := rfl
theorem Turn.toEnd (T : Turn ls n s t) (k : Int) (h : m_state_behind [machP ls, s.p, .tup [.str "leap", .int n, .int k]] = .ok (leapP s t k)) : m_state_at_end [machP ls, s.p, .lst [.tup [.str "leap", .int n, .int k]]] = .ok (.tup [leapP s t k, .int (n * k)]) := by
  have := T.n2
  have hm := pmul_l (n : Int) k (by omega)
  simp [m_state_at_end, b_state_at_end, mOf_def, check_ok ls s T.hi, isiT, tyKnown, ev_forC, h, hm, sizeL]
theorem same_leap (m : Nat) (k : Int) : m_law_same (m + 3) [leapP s t k, leapP s t k] = .ok (.bl true) := same_state m _ _ _ _
theorem same_leap2 (m : Nat) (k j : Int) : m_law_same (m + 4) [.tup [leapP s t k, .int j], .tup [leapP s t k, .int j]] = .ok (.bl true) := same_end m _ _ _ _ _
theorem same_st (m : Nat) : m_law_same (m + 3) [s.p, s.p] = .ok (.bl true) := same_state m _ _ _ _
theorem Turn.pieces (T : Turn ls n s t) (a b : Nat) : m_law_pieces [machP ls, statesP ls n s, optP (dueT ls n s t), .lst [.int a, .int b]] = .ok (.bl true) := by
  have hf := T.full
  have hn1 := T.n1
  have hn2 := T.n2
  have e1 : ((s :: trail ls n s).map St.p)[0]? = some s.p := rfl
  have e2 : ((s :: trail ls n s).map St.p).getLast? = some t.p := by rw [List.getLast?_map, T.last]; rfl
  have e3 : (((s :: trail ls n s).map St.p).length : Int) - 1 = n := by simp [hf]
  have e4 : plen [statesP ls n s] = .ok (.int (n + 1)) := by simp [hf]
  have h0 : ((t.a : Int) - s.a).natAbs < 1073741824 := by have := T.gr 0; rw [grw_get] at this; exact this
  have h1 : ((t.b : Int) - s.b).natAbs < 1073741824 := by have := T.gr 1; rw [grw_get] at this; exact this
  have h2 : ((t.c : Int) - s.c).natAbs < 1073741824 := by have := T.gr 2; rw [grw_get] at this; exact this
  by_cases hn : 400 < n
  · have hn' : (400 : Int) < n := by omega
    have hr := T.refused hn
    have hst := T.steps
    have hs := same_st (s := t) 1
    have f1 : pIxV (statesP ls n s) (.int 0) = .ok s.p := by rw [ev_ixL, atI_0, e1]
    have f2 : pIxV (statesP ls n s) (.int (-1)) = .ok t.p := by rw [ev_ixL, atI_neg1, e2]
    generalize statesP ls n s = SP at *
    simp [m_law_pieces, b_law_pieces, mOf_def, e4, f1, f2, hn, hn', hr, hst, hs, sizeL]
  · have hn' : ¬ ((400 : Int) < n) := by omega
    have hm1 := pmul_l (a : Int) 1009
    have key : ∀ k : Int, 1 ≤ k → m_state_behind [machP ls, s.p, .tup [.str "leap", .int n, .int k]] = .ok (leapP s t k) → ∀ d : PV, (d = .non ∧ k = 1 + (a : Int) * 1009 + b) ∨ (d = .int k ∧ m_state_behind [machP ls, s.p, .tup [.str "leap", .int n, .int (k + 1 + (a : Int).fmod 3)]] = .ok .non) → m_law_pieces [machP ls, statesP ls n s, d, .lst [.int a, .int b]] = .ok (.bl true) := fun k hk hb d hd => by
      have f1 : pIxV (statesP ls n s) (.int 0) = .ok s.p := by rw [ev_ixL, atI_0, e1]
      have f2 : pIxV (statesP ls n s) (.int (-1)) = .ok t.p := by rw [ev_ixL, atI_neg1, e2]
      have hE := T.toEnd k hb
      have m1 := pmul_r (a : Int) 1009 (by decide)
      have m2 := pmul_r k ((t.a : Int) - s.a) (by omega)
      have m3 := pmul_r k ((t.b : Int) - s.b) (by omega)
      have m4 := pmul_r k ((t.c : Int) - s.c) (by omega)
      have m5 := pmul_l (n : Int) k (by omega)
      have hL : PV.tup [.int s.i, .tup [.int (s.a + k * ((t.a : Int) - s.a)), .int (s.b + k * ((t.b : Int) - s.b)), .int (s.c + k * ((t.c : Int) - s.c))]] = leapP s t k := rfl
      have s1 := same_leap (s := s) (t := t) 1 k
      have s2 := same_leap2 (s := s) (t := t) 0 k (n * k)
      generalize statesP ls n s = SP at *
      rcases hd with ⟨hd, hd2⟩ | ⟨hd, hd2⟩
      · subst hd
        rw [hd2] at hb hE m2 m3 m4 m5 hL s1 s2
        simp [m_law_pieces, b_law_pieces, mOf_def, e4, f1, f2, hn, hn', m1, m2, m3, m4, m5, hb, hE, rng3, hL, s1, s2, PV.isNon, sizeL]
      · subst hd
        simp [m_law_pieces, b_law_pieces, mOf_def, e4, f1, f2, hn, hn', m1, m2, m3, m4, m5, hb, hE, rng3, hL, s1, s2, PV.isNon, sizeL, hd2]
    cases hd : dueT ls n s t with
    | none =>
      have hl := T.leap (by omega) (1 + (a : Int) * 1009 + b) (by omega)
      rw [hd] at hl
      exact key _ (by omega) hl _ (.inl ⟨rfl, rfl⟩)
    | some v =>
      have hp := T.pos hd
      have hl := T.leap (by omega) v hp
      have h3 := Int.fmod_nonneg_of_pos (a : Int) (b := 3) (by decide)
      have hl2 := T.leap (by omega) (v + 1 + (a : Int).fmod 3) (by omega)
      rw [hd] at hl hl2
      simp only [if_neg (Int.lt_irrefl v)] at hl
      simp only [if_pos (show v < v + 1 + (a : Int).fmod 3 by omega)] at hl2
      exact key v hp hl _ (.inr ⟨rfl, hl2⟩)
end
end K12
set_option Elab.async false
set_option linter.all false
set_option maxRecDepth 100000
set_option maxHeartbeats 2000000
namespace K12
open PySem PySem.Spec PyProof.Rows L2 Pu
theorem cut_take {α : Type} (xs : List α) (k : Nat) : cutP xs none (some (k : Int)) = xs.take k := by
  unfold cutP HT.sIx
  simp
  rw [if_neg (by omega)]
  simp
theorem cut_from {α : Type} (xs : List α) (k : Nat) (h : k ≤ xs.length) : cutP xs (some (k : Int)) none = xs.drop k := by
  unfold cutP HT.sIx
  simp
  rw [if_neg (by omega)]
  rw [Nat.min_eq_left h]
  rw [List.take_of_length_le (by simp)]
@[simp] theorem at_opt (d : Option Int) : (optP d).atom = true := by cases d <;> rfl
noncomputable abbrev tLaw : Pu.Env → O := (sSeq (sSet 10 [] (inF (pBin padd (pC (.int 1)) (pBin pmul (pBin pmod (pBin pIxV (pVar 2) (pC (.int 16))) (pC (.int 2))) (pCal pint (pCons (pBin plt (pVar 3) (pC (.int 9))) pNil))))))
    (sSeq (sAsg [7] (gTupP 2 (gsCons (gNam 11) (gsCons (gNam 12) gsNil))) (pFn m_law_run (pCons (pVar 5) (pCons (pTup (pCons (pC (.int 0)) (pCons (pCal ptuple (pCons (pVar 7) pNil)) pNil))) (pCons (pBin pmul (pVar 10) (pBin padd (pVar 3) (pC (.int 2)))) pNil)))))
    (sSeq (sIf [] (pOrT (pNotT (pTr (pFn (m_law_same 4) (pCons (pFn m_most_times (pCons (pVar 6) (pCons (unF (pLstF (pCons (pBin pIxV (pVar 12) (pC (.int 0))) pNil))) pNil))) (pCons (pC (.int 0)) pNil))))) (pNotT (pTr (pFn (m_law_same 4) (pCons (pFn m_most_times (pCons (pVar 6) (pCons (unF (pSli (pVar 12) pNoPart (pPart (pC (.int 2))))) pNil))) (pCons (pFn m_law_due (pCons (pVar 5) (pCons (unF (pSli (pVar 12) pNoPart (pPart (pC (.int 2))))) pNil))) pNil)))))) (sRet [] (pC (.bl false))) sNx)
    (sSeq (sIf [] (pB (pBin plt (pCal plen (pCons (pVar 12) pNil)) (pBin padd (pBin pmul (pVar 10) (pBin padd (pVar 3) (pC (.int 2)))) (pC (.int 1))))) (sRet [] (pFn (m_law_same 4) (pCons (pFn m_most_times (pCons (pVar 6) (pCons (unF (pCalF plistF (pCons (pVar 12) pNil))) pNil))) (pCons (pFn m_law_due (pCons (pVar 5) (pCons (pVar 12) pNil))) pNil)))) sNx)
    (sSeq (sSet 13 [] (inF (pFn m_law_due (pCons (pVar 5) (pCons (pVar 12) pNil)))))
    (sSeq (sIf [] (pNotT (pTr (pFn (m_law_same 4) (pCons (pFn m_most_times (pCons (pVar 6) (pCons (unF (pCalF plistF (pCons (pVar 12) pNil))) pNil))) (pCons (pVar 13) pNil))))) (sRet [] (pC (.bl false))) sNx)
    (sSeq (sSet 14 [] (inF (pBin padd (pC (.int 1)) (pBin pmod (pBin pIxV (pVar 2) (pC (.int 17))) (pBin psub (pCal plen (pCons (pVar 12) pNil)) (pC (.int 1)))))))
    (sSeq (sSet 15 [] (inF (unF (pSli (pVar 12) pNoPart (pPart (pVar 14))))))
    (sSeq (sIf [] (pNotT (pTr (pFn (m_law_same 4) (pCons (pFn m_most_times (pCons (pVar 6) (pCons (unF (pCalF plistF (pCons (pVar 15) pNil))) pNil))) (pCons (pFn m_law_due (pCons (pVar 5) (pCons (pVar 15) pNil))) pNil))))) (sRet [] (pC (.bl false))) sNx)
    (sRet [] (pFn m_law_pieces (pCons (pVar 6) (pCons (pVar 12) (pCons (pVar 13) (pCons (unF (pSli (pVar 2) (pPart (pC (.int 18))) pNoPart)) pNil)))))))))))))))
theorem tail_ok {ls : List Li} (v : Valid ls) (r : Ring ls) (wide : Nat) (hl : ls.length = wide + 3) (hw : wide < 950) (drawn : List Nat) (hd : drawn.length = 20) (a b c : Nat) (q0 q1 q4 s8 s9 : Slot) :
    (match tLaw [q0, q1, .sh (.lst (natsP drawn)), .sh (.int wide), q4, .sh (linesP ls), .sh (machP ls), .ow [.int a, .int b, .int c], s8, s9, .un, .un, .un, .un, .un, .un] with | .rt p _ => some p | _ => none) = some (.bl true) := by
  have b16 : pIxV (.lst (natsP drawn)) (.int 16) = .ok (.int (drawn[16] : Nat)) := by
    rw [ev_ixL, show atI (natsP drawn) 16 = (natsP drawn)[16]? from atI_nat _ 16, nat_at (by omega)]
  have b17 : pIxV (.lst (natsP drawn)) (.int 17) = .ok (.int (drawn[17] : Nat)) := by
    rw [ev_ixL, show atI (natsP drawn) 17 = (natsP drawn)[17]? from atI_nat _ 17, nat_at (by omega)]
  have b18 : pSlV (.lst (natsP drawn)) (some 18) none = .ok (.ow [.int (drawn[18] : Nat), .int (drawn[19] : Nat)]) := by
    rw [ev_slL, show cutP (natsP drawn) (some 18) none = (natsP drawn).drop 18 from cut_from _ 18 (by simp; omega)]
    have e : drawn.drop 18 = [drawn[18], drawn[19]] := by
      rw [List.drop_eq_getElem_cons (by omega), List.drop_eq_getElem_cons (by omega), List.drop_eq_nil_of_le (by omega)]
    rw [natsP, ← List.map_drop, e]
    rfl
  generalize drawn[16] = x16 at *
  generalize drawn[17] = x17 at *
  generalize drawn[18] = x18 at *
  generalize drawn[19] = x19 at *
  generalize PV.lst (natsP drawn) = DP at *
  have c16 : (x16 : Int).fmod 2 = ((x16 % 2 : Nat) : Int) := fmod_nat x16 2
  -- the number of turns
  obtain ⟨m, hm, em⟩ : ∃ m : Nat, m ≤ 1 ∧ (if wide < 9 then ((x16 % 2 : Nat) : Int) else 0) = (m : Int) := by
    by_cases h : wide < 9
    · exact ⟨x16 % 2, by omega, by rw [if_pos h]⟩
    · exact ⟨0, by omega, by rw [if_neg h]; rfl⟩
  have hp1 : pmul (.int ((x16 % 2 : Nat) : Int)) (.int (if (wide : Int) < 9 then 1 else 0)) = .ok (.int m) := by
    rw [pmul_l _ _ (by omega), ← em]
    by_cases h : wide < 9
    · rw [if_pos h, if_pos (by omega), Int.mul_one]
    · rw [if_neg h, if_neg (by omega), Int.mul_zero]
  have hp2 : pmul (.int ((x16 : Int) % 2)) (.int (if (wide : Int) < 9 then 1 else 0)) = .ok (.int m) := hp1
  have hpN : pmul (.int (1 + (m : Int))) (.int ((wide : Int) + 2)) = .ok (.int ((1 + (m : Int)) * ((wide : Int) + 2))) := pmul_l _ _ (by omega)
  have hmN : m * (wide + 2) ≤ wide + 2 := by
    have := Nat.mul_le_mul_right (wide + 2) hm
    omega
  have eN : (1 + (m : Int)) * ((wide : Int) + 2) = ((m * (wide + 2) + (wide + 2) : Nat) : Int) := by
    have h : ((m * (wide + 2) + (wide + 2) : Nat) : Int) = (m : Int) * ((wide : Int) + 2) + ((wide : Int) + 2) := by simp
    rw [h, Int.add_mul, Int.one_mul, Int.add_comm]
  have hNb : 2 ≤ m * (wide + 2) + (wide + 2) ∧ m * (wide + 2) + (wide + 2) < 2000 := ⟨by omega, by omega⟩
  have hend := ring_end v r (wide + 2) (by omega) (by omega) m ⟨0, a, b, c⟩ rfl
  generalize hN : m * (wide + 2) + (wide + 2) = N at *
  generalize hs0 : (⟨0, a, b, c⟩ : St) = s at *
  have hi : s.i < ls.length := by rw [← hs0]; show 0 < ls.length; omega
  have es : PV.tup [.int 0, .tup [.int a, .int b, .int c]] = s.p := by rw [← hs0]; rfl
  obtain ⟨word, hrun⟩ := law_run_ok v.good s hi N (by rw [sizeL]; omega)
  have hlen := trail_len ls N s
  have ag := agree v.good N (by omega) s hi
  have hT : (trail ls N s).length = N → ∃ t, Turn ls N s t := fun hf => by
    have hne : (s :: trail ls N s).length = N + 1 := by simp [hf]
    obtain ⟨t, e⟩ : ∃ t, (s :: trail ls N s)[N]? = some t := ⟨_, List.getElem?_eq_getElem (by omega)⟩
    refine ⟨t, v, hi, by omega, by omega, hf, ?_, ?_⟩
    · rw [List.getLast?_eq_getElem?, hne]; exact e
    · rw [hend _ e, ← hs0]
  have f0 : pIxV (statesP ls N s) (.int 0) = .ok s.p := by rw [ev_ixL, atI_0]; rfl
  have f2 : pSlV (statesP ls N s) none (some 2) = .ok (.ow (((s :: trail ls N s).take (1 + 1)).map St.p)) := by
    rw [ev_slL, show cutP ((s :: trail ls N s).map St.p) none (some 2) = ((s :: trail ls N s).map St.p).take 2 from cut_take _ 2, List.map_take]
  have f3 : plen [statesP ls N s] = .ok (.int (((trail ls N s).length : Nat) + 1 : Int)) := by rw [ev_plenL]; simp
  have f4 : plistF [statesP ls N s] = .ok (.ow ((s :: trail ls N s).map St.p)) := rfl
  have f5 : ∀ k : Nat, pSlV (statesP ls N s) none (some (1 + (k : Int))) = .ok (.ow (((s :: trail ls N s).take (k + 1)).map St.p)) := fun k => by
    rw [ev_slL, show (1 + (k : Int)) = ((k + 1 : Nat) : Int) by omega, cut_take, List.map_take]
  obtain ⟨d2, m2, u2⟩ := ag 1
  have z2 := same_opt 3 d2
  have m1 : m_most_times [machP ls, .lst [s.p]] = .ok (.int 0) := most_zero ls [s] (.inl (by simp))
  have z1 := same_int 3 0
  have hsN : m_most_times [machP ls, statesP ls N s] = m_most_times [machP ls, .lst (((s :: trail ls N s).take (N + 1)).map St.p)] := by
    rw [List.take_of_length_le (by simp; omega)]
  have hsN2 : m_law_due [linesP ls, statesP ls N s] = m_law_due [linesP ls, .lst (((s :: trail ls N s).take (N + 1)).map St.p)] := by
    rw [List.take_of_length_le (by simp; omega)]
  have hq : ∀ k, (.lst (((s :: trail ls N s).take (k + 1)).map St.p) : PV) = .lst (((s :: trail ls N s).take (k + 1)).map St.p) := fun _ => rfl
  by_cases hf : (trail ls N s).length = N
  · obtain ⟨t, T⟩ := hT hf
    have tm := T.most
    have td := T.due
    have zt := same_opt 3 (dueT ls N s t)
    have tp := T.pieces x18 x19
    have c17 : (x17 : Int).fmod N = ((x17 % N : Nat) : Int) := fmod_nat x17 N
    obtain ⟨d5, m5, u5⟩ := ag (x17 % N)
    have z5 := same_opt 3 d5
    have f55 := f5 (x17 % N)
    have f56 : pSlV (statesP ls N s) none (some (1 + (x17 : Int) % (N : Int))) = .ok (.ow (((s :: trail ls N s).take (x17 % N + 1)).map St.p)) := f55
    have hN00 : ¬ N = 0 := by omega
    rw [hf] at f3
    have hN0 : ¬ ((N : Int) = 0) := by omega
    have hlt : ¬ ((N : Int) + 1 < N + 1) := by omega
    simp only [statesP] at *
    generalize List.map St.p (s :: trail ls N s) = X at *
    generalize List.map St.p (List.take (1 + 1) (s :: trail ls N s)) = P2 at *
    generalize List.map St.p (List.take (x17 % N + 1) (s :: trail ls N s)) = P5 at *
    simp [b16, b17, b18, c16, hp1, hp2, hpN, eN, es, hrun, m1, z1, m2, u2, z2, f0, f2, f3, f4, f55, f56, hN00, hlt, tm, td, zt, tp, c17, hN0, m5, u5, z5, sizeL]
  · obtain ⟨dN, mN, uN⟩ := ag N
    have zN := same_opt 3 dN
    rw [← hsN] at mN
    rw [← hsN2] at uN
    have hlt : (((trail ls N s).length : Nat) : Int) + 1 < N + 1 := by omega
    have hlt2 : (trail ls N s).length < N := by omega
    have hlt3 : (((trail ls N s).length : Nat) : Int) < N := by omega
    simp only [statesP] at *
    generalize List.map St.p (s :: trail ls N s) = X at *
    generalize List.map St.p (List.take (1 + 1) (s :: trail ls N s)) = P2 at *
    simp [b16, b17, b18, c16, hp1, hp2, hpN, eN, es, hrun, m1, z1, m2, u2, z2, f0, f2, f3, f4, hlt, hlt2, hlt3, mN, uN, zN, sizeL]
end K12
set_option Elab.async false
set_option linter.all false
set_option maxRecDepth 100000
set_option maxHeartbeats 2000000
namespace K12
open PySem PySem.Spec PyProof.Rows L2 Pu
/-! ### the counters drawn -/
noncomputable abbrev bIn : Pu.Env → O := (sSetIx 7 [] (pVar 8) (pBin padd (pBin pmul (pIxO 7 (pVar 8)) (pC (.int 1009))) (pBin pIxV (pVar 2) (pBin padd (pC (.int 7)) (pVar 9)))))
noncomputable abbrev bOut : Pu.Env → O := (sIf [] (pOrT (pB (pBin peq (pBin pmod (pBin pIxV (pVar 2) (pBin padd (pC (.int 4)) (pVar 8))) (pC (.int 4))) (pC (.int 0)))) (pB (pBin pgt (pVar 3) (pC (.int 9))))) (sFor [] (pIt rng1 (pCons (pBin pIxV (unF (pLstF (pCons (pC (.int 9)) (pCons (pC (.int 1)) pNil)))) (pCal pint (pCons (pBin pgt (pBin pmod (pBin pIxV (pVar 2) (pBin padd (pC (.int 4)) (pVar 8))) (pC (.int 4))) (pC (.int 0))) pNil))) pNil)) (gNam 9) bIn) sNx)
def Told (o : Slot) : Prop := ∃ a b c : Nat, o = .ow [.int a, .int b, .int c]
theorem in_one (drawn : List Nat) (hd : drawn.length = 20) (q0 q1 q3 q4 q5 q6 s7 : Slot) (rest : List Slot) (j k : Nat) (hj : j < 3) (hk : k < 9) (h : Told s7) : ∃ y7, Told y7 ∧
    bIn (q0 :: q1 :: .sh (.lst (natsP drawn)) :: q3 :: q4 :: q5 :: q6 :: s7 :: .sh (.int j) :: .sh (.int k) :: rest) = .nx (q0 :: q1 :: .sh (.lst (natsP drawn)) :: q3 :: q4 :: q5 :: q6 :: y7 :: .sh (.int j) :: .sh (.int k) :: rest) := by
  obtain ⟨a, b, c, rfl⟩ := h
  have e : pIxV (.lst (natsP drawn)) (.int (7 + (k : Int))) = .ok (.int (drawn[7 + k]'(by omega) : Nat)) := by
    rw [ev_ixL, show (7 + (k : Int)) = ((7 + k : Nat) : Int) by omega, atI_nat, nat_at (by omega)]
  generalize drawn[7 + k] = x at e
  generalize PV.lst (natsP drawn) = DP at *
  rcases j with _ | _ | _ | j
  · have m := pmul_r (a : Int) 1009 (by decide)
    exact ⟨.ow [.int ((a * 1009 + x : Nat) : Int), .int b, .int c], ⟨_, _, _, rfl⟩, by simp [e, m, ixN]⟩
  · have m := pmul_r (b : Int) 1009 (by decide)
    exact ⟨.ow [.int a, .int ((b * 1009 + x : Nat) : Int), .int c], ⟨_, _, _, rfl⟩, by simp [e, m, ixN]⟩
  · have m := pmul_r (c : Int) 1009 (by decide)
    exact ⟨.ow [.int a, .int b, .int ((c * 1009 + x : Nat) : Int)], ⟨_, _, _, rfl⟩, by simp [e, m, ixN]⟩
  · omega
theorem in_loop (drawn : List Nat) (hd : drawn.length = 20) (q0 q1 q3 q4 q5 q6 : Slot) (rest : List Slot) (j : Nat) (hj : j < 3) : ∀ (m k : Nat) (s7 s9 : Slot), k + m ≤ 9 → Told s7 → ∃ y7 y9, Told y7 ∧
    forL (gNam 9) bIn ((List.range' k m).map fun (i : Nat) => PV.int i) (q0 :: q1 :: .sh (.lst (natsP drawn)) :: q3 :: q4 :: q5 :: q6 :: s7 :: .sh (.int j) :: s9 :: rest) = .nx (q0 :: q1 :: .sh (.lst (natsP drawn)) :: q3 :: q4 :: q5 :: q6 :: y7 :: .sh (.int j) :: y9 :: rest)
  | 0, k, s7, s9, _, h => ⟨s7, s9, h, rfl⟩
  | m + 1, k, s7, s9, hk, h => by
    obtain ⟨y7, h7, e⟩ := in_one drawn hd q0 q1 q3 q4 q5 q6 s7 rest j k hj (by omega) h
    obtain ⟨z7, z9, h8, e2⟩ := in_loop drawn hd q0 q1 q3 q4 q5 q6 rest j hj m (k + 1) y7 (.sh (.int k)) (by omega) h7
    refine ⟨z7, z9, h8, ?_⟩
    rw [List.range'_succ, List.map_cons, ev_forC]
    simp only [ev_gNam, List.set_cons_succ, List.set_cons_zero]
    rw [e]
    exact e2
theorem range_nat (n : Nat) : rangeP 0 n = (List.range' 0 n).map fun (i : Nat) => PV.int i := by simp [rangeP, List.range_eq_range']
theorem out_one (drawn : List Nat) (hd : drawn.length = 20) (q0 q1 q4 q5 q6 s7 s9 : Slot) (rest : List Slot) (wide j : Nat) (hj : j < 3) (h : Told s7) : ∃ y7 y9, Told y7 ∧
    bOut (q0 :: q1 :: .sh (.lst (natsP drawn)) :: .sh (.int wide) :: q4 :: q5 :: q6 :: s7 :: .sh (.int j) :: s9 :: rest) = .nx (q0 :: q1 :: .sh (.lst (natsP drawn)) :: .sh (.int wide) :: q4 :: q5 :: q6 :: y7 :: .sh (.int j) :: y9 :: rest) := by
  have e : pIxV (.lst (natsP drawn)) (.int (4 + (j : Int))) = .ok (.int (drawn[4 + j]'(by omega) : Nat)) := by
    rw [ev_ixL, show (4 + (j : Int)) = ((4 + j : Nat) : Int) by omega, atI_nat, nat_at (by omega)]
  generalize drawn[4 + j] = x at e
  have c4 : (x : Int).fmod 4 = ((x % 4 : Nat) : Int) := fmod_nat x 4
  have l9 := in_loop drawn hd q0 q1 (.sh (.int wide)) q4 q5 q6 rest j hj 9 0 s7 s9 (by omega) h
  have l1 := in_loop drawn hd q0 q1 (.sh (.int wide)) q4 q5 q6 rest j hj 1 0 s7 s9 (by omega) h
  rw [← range_nat] at l9 l1
  have r9 : rng1 [.int 9] = .ok (rangeP 0 9) := rng1_ok' 9 (by decide)
  have r1 : rng1 [.int 1] = .ok (rangeP 0 1) := rng1_ok' 1 (by decide)
  generalize PV.lst (natsP drawn) = DP at *
  by_cases h0 : x % 4 = 0
  · obtain ⟨y7, y9, h7, e2⟩ := l9
    refine ⟨y7, y9, h7, ?_⟩
    simp [e, c4, h0, sizeL, r9, e2]
  · have hp : 0 < x % 4 := by omega
    have h0i : ¬ ((x : Int) % 4 = 0) := by omega
    have hpi : (0 : Int) < (x : Int) % 4 := by omega
    by_cases hw : 9 < wide
    · obtain ⟨y7, y9, h7, e2⟩ := l1
      refine ⟨y7, y9, h7, ?_⟩
      have hwi : (9 : Int) < wide := by omega
      simp [e, c4, h0, hw, hp, h0i, hpi, hwi, sizeL, r1, e2]
    · refine ⟨s7, s9, h, ?_⟩
      have hwi : ¬ ((9 : Int) < wide) := by omega
      simp [e, c4, h0, hw, h0i, hwi, sizeL]
theorem told_loop (drawn : List Nat) (hd : drawn.length = 20) (q0 q1 q4 q5 q6 s7 s8 s9 : Slot) (rest : List Slot) (wide : Nat) (h : Told s7) : ∃ y7 y8 y9, Told y7 ∧
    sFor [] (pIt rng1 (pCons (pC (.int 3)) pNil)) (gNam 8) bOut (q0 :: q1 :: .sh (.lst (natsP drawn)) :: .sh (.int wide) :: q4 :: q5 :: q6 :: s7 :: s8 :: s9 :: rest) = .nx (q0 :: q1 :: .sh (.lst (natsP drawn)) :: .sh (.int wide) :: q4 :: q5 :: q6 :: y7 :: y8 :: y9 :: rest) := by
  obtain ⟨a7, a9, ha, ea⟩ := out_one drawn hd q0 q1 q4 q5 q6 s7 s9 rest wide 0 (by omega) h
  obtain ⟨b7, b9, hb, eb⟩ := out_one drawn hd q0 q1 q4 q5 q6 a7 a9 rest wide 1 (by omega) ha
  obtain ⟨c7, c9, hc, ec⟩ := out_one drawn hd q0 q1 q4 q5 q6 b7 b9 rest wide 2 (by omega) hb
  refine ⟨c7, .sh (.int 2), c9, hc, ?_⟩
  have r3 : (pIt rng1 (pCons (pC (.int 3)) pNil)) (q0 :: q1 :: .sh (.lst (natsP drawn)) :: .sh (.int wide) :: q4 :: q5 :: q6 :: s7 :: s8 :: s9 :: rest) = .ok [.int 0, .int 1, .int 2] := rng3
  rw [ev_sFor, frzs_nil, r3]
  simp only [ev_forC, ev_forN, ev_gNam, List.set_cons_succ, List.set_cons_zero]
  have ea : bOut (q0 :: q1 :: .sh (.lst (natsP drawn)) :: .sh (.int wide) :: q4 :: q5 :: q6 :: s7 :: .sh (.int 0) :: s9 :: rest) = _ := ea
  have eb : bOut (q0 :: q1 :: .sh (.lst (natsP drawn)) :: .sh (.int wide) :: q4 :: q5 :: q6 :: a7 :: .sh (.int 1) :: a9 :: rest) = _ := eb
  have ec : bOut (q0 :: q1 :: .sh (.lst (natsP drawn)) :: .sh (.int wide) :: q4 :: q5 :: q6 :: b7 :: .sh (.int 2) :: b9 :: rest) = _ := ec
  rw [ea]
  simp only
  have ea' : (((0 : Nat) : Int)) = 0 := rfl
  simp only [Int.natCast_zero, List.set_cons_succ, List.set_cons_zero]
  rw [eb]
  simp only [List.set_cons_succ, List.set_cons_zero]
  rw [ec]
  rfl
/-! ### the law -/
noncomputable abbrev hLaw (T : Pu.Env → O) : Pu.Env → O := (sSeq (sSet 1 [] (inF (pFn m_law_numbers (pCons (pVar 0) (pCons (pC (.int 0)) (pCons (pC (.int 40)) pNil))))))
    (sSeq (sSet 2 [] (inF (pFn m_law_numbers (pCons (pVar 0) (pCons (pC (.int 1)) (pCons (pC (.int 20)) pNil))))))
    (sSeq (sSet 3 [] (inF (pBin pmod (pBin pIxV (pVar 1) (pC (.int 36))) (pC (.int 8)))))
    (sSeq (sIf [] (pB (pBin peq (pBin pmod (pBin pIxV (pVar 1) (pC (.int 37))) (pC (.int 5))) (pC (.int 0)))) (sSet 3 [] (inF (pBin padd (pC (.int 400)) (pBin pmod (pBin pIxV (pVar 1) (pC (.int 36))) (pC (.int 499)))))) sNx)
    (sSeq (sSet 4 [] (inF (pAnd (pBin peq (pBin pmod (pBin pIxV (pVar 2) (pC (.int 0))) (pC (.int 4))) (pC (.int 0))) (pBin pgt (pVar 3) (pC (.int 0))))))
    (sSeq (sSet 5 [] (inF (pFn m_law_loop (pCons (pVar 1) (pCons (pVar 3) (pCons (pVar 4) pNil))))))
    (sSeq (sPar 6 7 (inF (unF (pMake "Machine" m_Machine_init (pCons (pC (.int 3)) (pCons (unF (pCalF plistF (pCons (pVar 5) pNil))) pNil))))) (pLstF (pCons (pBin pmod (pBin pIxV (pVar 2) (pC (.int 1))) (pC (.int 13))) (pCons (pBin pmod (pBin pIxV (pVar 2) (pC (.int 2))) (pC (.int 5))) (pCons (pBin pmod (pBin pIxV (pVar 2) (pC (.int 3))) (pC (.int 5))) pNil))))) T)))))))
theorem law_eq : b_law = hLaw (sSeq (sFor [] (pIt rng1 (pCons (pC (.int 3)) pNil)) (gNam 8) bOut) tLaw) := rfl
theorem law_true (ns : List Int) : m_law [.fls (ns.map PV.int)] = .ok (.bl true) := by
  obtain ⟨nums, hn1, hn2, en⟩ := numbers_ok ns 0 40 (by omega)
  obtain ⟨drawn, hd1, hd2, ed⟩ := numbers_ok ns 1 20 (by omega)
  have en : m_law_numbers [.fls (ns.map PV.int), .int 0, .int 40] = _ := en
  have ed : m_law_numbers [.fls (ns.map PV.int), .int 1, .int 20] = _ := ed
  have a36 : pIxV (.lst (natsP nums)) (.int 36) = .ok (.int (nums[36] : Nat)) := by
    rw [ev_ixL, show atI (natsP nums) 36 = (natsP nums)[36]? from atI_nat _ 36, nat_at (by omega)]
  have a37 : pIxV (.lst (natsP nums)) (.int 37) = .ok (.int (nums[37] : Nat)) := by
    rw [ev_ixL, show atI (natsP nums) 37 = (natsP nums)[37]? from atI_nat _ 37, nat_at (by omega)]
  have b0 : pIxV (.lst (natsP drawn)) (.int 0) = .ok (.int (drawn[0] : Nat)) := by
    rw [ev_ixL, show atI (natsP drawn) 0 = (natsP drawn)[0]? from atI_nat _ 0, nat_at (by omega)]
  have b1 : pIxV (.lst (natsP drawn)) (.int 1) = .ok (.int (drawn[1] : Nat)) := by
    rw [ev_ixL, show atI (natsP drawn) 1 = (natsP drawn)[1]? from atI_nat _ 1, nat_at (by omega)]
  have b2 : pIxV (.lst (natsP drawn)) (.int 2) = .ok (.int (drawn[2] : Nat)) := by
    rw [ev_ixL, show atI (natsP drawn) 2 = (natsP drawn)[2]? from atI_nat _ 2, nat_at (by omega)]
  have b3 : pIxV (.lst (natsP drawn)) (.int 3) = .ok (.int (drawn[3] : Nat)) := by
    rw [ev_ixL, show atI (natsP drawn) 3 = (natsP drawn)[3]? from atI_nat _ 3, nat_at (by omega)]
  have hl : ∀ (wide : Nat) (en : Bool), wide < 950 → ∃ ls, m_law_loop [.lst (natsP nums), .int wide, .bl en] = .ok (linesP ls) ∧ m_Machine_init [.int 3, linesP ls] = .ok [("_counters", .sh (.int 3)), ("_lines", .sh (linesP ls))] ∧
      ∀ a b c : Nat, (match (sSeq (sFor [] (pIt rng1 (pCons (pC (.int 3)) pNil)) (gNam 8) bOut) tLaw) [.sh (.fls (ns.map PV.int)), .sh (.lst (natsP nums)), .sh (.lst (natsP drawn)), .sh (.int wide), .sh (.bl en), .sh (linesP ls), .sh (machP ls), .ow [.int a, .int b, .int c], .un, .un, .un, .un, .un, .un, .un, .un] with | .rt p _ => some p | _ => none) = some (.bl true) := fun wide en hw => by
    obtain ⟨ls, e, v, r, hlen⟩ := loop_ok nums (by omega) wide (by omega) en
    refine ⟨ls, e, made_ok v, fun a b c => ?_⟩
    obtain ⟨y7, y8, y9, ⟨a', b', c', hy⟩, ef⟩ := told_loop drawn hd1 (.sh (.fls (ns.map PV.int))) (.sh (.lst (natsP nums))) (.sh (.bl en)) (.sh (linesP ls)) (.sh (machP ls)) (.ow [.int a, .int b, .int c]) .un .un [.un, .un, .un, .un, .un, .un] wide ⟨a, b, c, rfl⟩
    subst hy
    rw [ev_sSeq, ef]
    exact tail_ok v r wide hlen hw drawn hd1 a' b' c' _ _ _ _ _
  have hNP : (PV.lst (natsP nums)).atom = false := rfl
  have hDP : (PV.lst (natsP drawn)).atom = false := rfl
  unfold m_law
  rw [law_eq]
  generalize (sSeq (sFor [] (pIt rng1 (pCons (pC (.int 3)) pNil)) (gNam 8) bOut) tLaw) = T at hl ⊢
  generalize PV.fls (ns.map PV.int) = SC at *
  generalize nums[36] = n36 at *
  generalize nums[37] = n37 at *
  generalize drawn[0] = d0 at *
  generalize drawn[1] = d1 at *
  generalize drawn[2] = d2 at *
  generalize drawn[3] = d3 at *
  generalize PV.lst (natsP nums) = NP at *
  generalize PV.lst (natsP drawn) = DP at *
  have c1 : (n36 : Int).fmod 8 = ((n36 % 8 : Nat) : Int) := fmod_nat n36 8
  have c2 : (n37 : Int).fmod 5 = ((n37 % 5 : Nat) : Int) := fmod_nat n37 5
  have c3 : (n36 : Int).fmod 499 = ((n36 % 499 : Nat) : Int) := fmod_nat n36 499
  have c4 : (d0 : Int).fmod 4 = ((d0 % 4 : Nat) : Int) := fmod_nat d0 4
  have c5 : (d1 : Int).fmod 13 = ((d1 % 13 : Nat) : Int) := fmod_nat d1 13
  have c6 : (d2 : Int).fmod 5 = ((d2 % 5 : Nat) : Int) := fmod_nat d2 5
  have c7 : (d3 : Int).fmod 5 = ((d3 % 5 : Nat) : Int) := fmod_nat d3 5
  have fin : ∀ wide : Nat, wide < 950 → (∀ ρ1, ρ1 = [.sh SC, .sh NP, .sh DP, .sh (.int wide), .un, .un, .un, .un, .un, .un, .un, .un, .un, .un, .un, .un] → ∃ r, (sSeq (sSet 4 [] (inF (pAnd (pBin peq (pBin pmod (pBin pIxV (pVar 2) (pC (.int 0))) (pC (.int 4))) (pC (.int 0))) (pBin pgt (pVar 3) (pC (.int 0))))))
    (sSeq (sSet 5 [] (inF (pFn m_law_loop (pCons (pVar 1) (pCons (pVar 3) (pCons (pVar 4) pNil))))))
    (sSeq (sPar 6 7 (inF (unF (pMake "Machine" m_Machine_init (pCons (pC (.int 3)) (pCons (unF (pCalF plistF (pCons (pVar 5) pNil))) pNil))))) (pLstF (pCons (pBin pmod (pBin pIxV (pVar 2) (pC (.int 1))) (pC (.int 13))) (pCons (pBin pmod (pBin pIxV (pVar 2) (pC (.int 2))) (pC (.int 5))) (pCons (pBin pmod (pBin pIxV (pVar 2) (pC (.int 3))) (pC (.int 5))) pNil))))) T))) ρ1 = .rt (.bl true) r) := fun wide hw ρ1 h1 => by
    subst h1
    have go : ∀ en : Bool, (pAnd (pBin peq (pBin pmod (pBin pIxV (pVar 2) (pC (.int 0))) (pC (.int 4))) (pC (.int 0))) (pBin pgt (pVar 3) (pC (.int 0)))) [.sh SC, .sh NP, .sh DP, .sh (.int wide), .un, .un, .un, .un, .un, .un, .un, .un, .un, .un, .un, .un] = .ok (.bl en) → ∃ r, (sSeq (sSet 4 [] (inF (pAnd (pBin peq (pBin pmod (pBin pIxV (pVar 2) (pC (.int 0))) (pC (.int 4))) (pC (.int 0))) (pBin pgt (pVar 3) (pC (.int 0))))))
    (sSeq (sSet 5 [] (inF (pFn m_law_loop (pCons (pVar 1) (pCons (pVar 3) (pCons (pVar 4) pNil))))))
    (sSeq (sPar 6 7 (inF (unF (pMake "Machine" m_Machine_init (pCons (pC (.int 3)) (pCons (unF (pCalF plistF (pCons (pVar 5) pNil))) pNil))))) (pLstF (pCons (pBin pmod (pBin pIxV (pVar 2) (pC (.int 1))) (pC (.int 13))) (pCons (pBin pmod (pBin pIxV (pVar 2) (pC (.int 2))) (pC (.int 5))) (pCons (pBin pmod (pBin pIxV (pVar 2) (pC (.int 3))) (pC (.int 5))) pNil))))) T))) [.sh SC, .sh NP, .sh DP, .sh (.int wide), .un, .un, .un, .un, .un, .un, .un, .un, .un, .un, .un, .un] = .rt (.bl true) r := fun en he => by
      obtain ⟨ls, e1, e2, e3⟩ := hl wide en hw
      have e3 := e3 (d1 % 13) (d2 % 5) (d3 % 5)
      generalize (pAnd (pBin peq (pBin pmod (pBin pIxV (pVar 2) (pC (.int 0))) (pC (.int 4))) (pC (.int 0))) (pBin pgt (pVar 3) (pC (.int 0)))) = A at he ⊢
      cases z : T [.sh SC, .sh NP, .sh DP, .sh (.int wide), .sh (.bl en), .sh (linesP ls), .sh (machP ls), .ow [.int ((d1 % 13 : Nat) : Int), .int ((d2 % 5 : Nat) : Int), .int ((d3 % 5 : Nat) : Int)], .un, .un, .un, .un, .un, .un, .un, .un] with
      | rt p r =>
        rw [z] at e3
        cases e3
        refine ⟨r, ?_⟩
        have z' : T [.sh SC, .sh NP, .sh DP, .sh (.int wide), .sh (.bl en), .sh (linesP ls), .sh (machP ls), .ow [.int ((d1 : Int) % 13), .int ((d2 : Int) % 5), .int ((d3 : Int) % 5)], .un, .un, .un, .un, .un, .un, .un, .un] = .rt (.bl true) r := z
        simp [he, e1, e2, b1, b2, b3, c5, c6, c7, sizeL, z']
      | _ => rw [z] at e3; cases e3
    by_cases h0 : d0 % 4 = 0
    · have h0i : (d0 : Int) % 4 = 0 := by omega
      exact go (decide ((0 : Int) < wide)) (by simp [b0, c4, h0i, h0])
    · have h0i : ¬ ((d0 : Int) % 4 = 0) := by omega
      exact go false (by simp [b0, c4, h0i, h0])
  unfold hLaw
  generalize (sSeq (sSet 4 [] (inF (pAnd (pBin peq (pBin pmod (pBin pIxV (pVar 2) (pC (.int 0))) (pC (.int 4))) (pC (.int 0))) (pBin pgt (pVar 3) (pC (.int 0))))))
    (sSeq (sSet 5 [] (inF (pFn m_law_loop (pCons (pVar 1) (pCons (pVar 3) (pCons (pVar 4) pNil))))))
    (sSeq (sPar 6 7 (inF (unF (pMake "Machine" m_Machine_init (pCons (pC (.int 3)) (pCons (unF (pCalF plistF (pCons (pVar 5) pNil))) pNil))))) (pLstF (pCons (pBin pmod (pBin pIxV (pVar 2) (pC (.int 1))) (pC (.int 13))) (pCons (pBin pmod (pBin pIxV (pVar 2) (pC (.int 2))) (pC (.int 5))) (pCons (pBin pmod (pBin pIxV (pVar 2) (pC (.int 3))) (pC (.int 5))) pNil))))) T))) = G at fin ⊢
  by_cases h5 : n37 % 5 = 0
  · have h5i : (n37 : Int) % 5 = 0 := by omega
    obtain ⟨r, hr⟩ := fin (400 + n36 % 499) (by omega) _ rfl
    have hr' : G [.sh SC, .sh NP, .sh DP, .sh (.int (400 + (n36 : Int) % 499)), .un, .un, .un, .un, .un, .un, .un, .un, .un, .un, .un, .un] = .rt (.bl true) r := hr
    simp [mOf_def, hNP, hDP, en, ed, a36, a37, c1, c2, c3, h5, h5i, hr']
  · have h5i : ¬ ((n37 : Int) % 5 = 0) := by omega
    obtain ⟨r, hr⟩ := fin (n36 % 8) (by omega) _ rfl
    have hr' : G [.sh SC, .sh NP, .sh DP, .sh (.int ((n36 : Int) % 8)), .un, .un, .un, .un, .un, .un, .un, .un, .un, .un, .un, .un] = .rt (.bl true) r := hr
    simp [mOf_def, hNP, hDP, en, ed, a36, a37, c1, c2, c3, h5, h5i, hr']
end K12
set_option Elab.async false
set_option linter.all false
set_option maxRecDepth 100000
set_option maxHeartbeats 0
open PySem PySem.W PySem.Calls PyProof.Rows
theorem k12_fin (hlaw : ∀ ns : List Int, ns.length ≤ 63 → K12.m_law [.fls (ns.map Pu.PV.int)] = .ok (.bl true)) : PySem.Challenge.rw_runsolved_k12_how_often_a_round_is_gone.Holds := by
  w_on; o_law
  refine HandSHeadRun.head_any (r := OpenLaw.row PySem.Challenge.rw_runsolved_k12_how_often_a_round_is_gone) (q := view (OpenLaw.row PySem.Challenge.rw_runsolved_k12_how_often_a_round_is_gone).prog [41]) (H := K12.hk) (ob := K12.ob) (M := 3000) (loose := K12.loose) (d := HandSHeadRun.topDef (OpenLaw.row PySem.Challenge.rw_runsolved_k12_how_often_a_round_is_gone).prog 41) (kwd := []) K12.ob_eq
    (by kernel_rfl) (fun s => by kernel_rfl) K12.run (by kernel_rfl) (by kernel_rfl) (by kernel_rfl) (by rfl) (by first | assumption | decide +kernel) (by decide +kernel) ⟨rfl, rfl, rfl, rfl, rfl, by decide +kernel⟩ ?hw ?hc
  case hw => w_witness2
  case hc =>
    refine L2.walk_ofE (l := PySem.Challenge.rw_runsolved_k12_how_often_a_round_is_gone) (n := 63) (k := 9) (x := "script") (CX := L2.CX0) rfl (by decide) (by kernel_rfl) ⟨rfl, by decide, by decide⟩ ?F (fun _ _ _ _ z => z)
    intro w mg fa h Y G hmg0
    obtain ⟨K, KX, c⟩ := Y
    have hmg : mg ("law" : PySem.Str) = some (.ref fa) := by
      have e : (HandSHeadRun.topDef (OpenLaw.row PySem.Challenge.rw_runsolved_k12_how_often_a_round_is_gone).prog 41).name = ("law" : PySem.Str) := by kernel_rfl
      rw [← e]
      exact hmg0
    obtain ⟨fd, hb, hF⟩ := K12.facts (P := PySem.Challenge.rw_runsolved_k12_how_often_a_round_is_gone.prog) (w := w) KX G hmg c
    exact ⟨K, fd, fun vs H Q _ => Pu.spP K mg K12.m_law vs H Q fun _ _ _ => False, KX, hb, fun H a ns hl _ hS => Pu.law_sp hS (hlaw ns hl), fun base _ _ => Pu.FnOk.noexc (hF base)⟩
theorem PySem.Challenge.cw_runsolved_k12_how_often_a_round_is_gone_holds : PySem.Challenge.rw_runsolved_k12_how_often_a_round_is_gone.Holds :=
  k12_fin fun ns _ => K12.law_true ns
