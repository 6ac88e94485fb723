import PyProof.Rows.All
import Wide.All
import OpenK.AllK
import Wide.FinOn
import KE.KStateDown
import HandS.ForMost
import HandS.ForExc
import HandS.Defaults
import HandS.TupAny
import HandS.TupMul
import HandS.Wide
import HandS.WideBits
import HandS.IsInst
import HandS.Flow
import HandS.Style
import PyProof.EnumMake
import PyProof.Draws
import HandS.More
import HandS.Head0
import HandS.Head1
import HandS.Head2
import HandS.HeadEnd
import HandS.HeadHook1
import HandS.HeadHook2
import HandS.HeadHook3
import HandS.MakeKw
import HandS.MakeKwOnly
import HandS.NoneIn
import HandS.Codes
import HandS.Dict
import HandS.SetFor
import HandS.OwnEq
import HandS.NamedTup0
import KE.KFmtOwn
import HandS.Exc
import HandS.ExcOwn
import HandS.ExcIs
import PySem.Challenge.RW_stripelay_k02_threads_and_stripes
set_option Elab.async false
set_option linter.all false
set_option maxRecDepth 100000
set_option maxHeartbeats 1000000
/-! PL: a layer of heap-free rules over HandS: data D, what a value stands for (Rep), the state of a def's slots (Gm), judgements EX, TX, AX, SX. -/
namespace PL
open PySem PySem.Spec PyProof.Rows L2

/-- data: what a value stands for, whatever its addresses -/
inductive D where
  | non | bl (b : Bool) | int (i : Int) | str (x : Str)
  | tup (ds : List D) | lst (ds : List D) | fls (ds : List D)
  | obj (C : Addr) (ns : List Str) (ds : List D)
  | dct (ks : List Key) (ds : List D)
  | raw (v : V)
  | ext (φ : Addr → HO)

mutual
def Rep (K : PySem.W.Frag) (S : Hp) : D → V → Prop
  | .non, v => v = .non
  | .bl b, v => v = .bl b
  | .int i, v => v = .int i
  | .str x, v => v = .str x
  | .tup ds, v => ∃ a vs, v = .ref a ∧ SqT K S a vs ∧ Reps K S ds vs
  | .lst ds, v => ∃ a vs, v = .ref a ∧ S a = some (.lst vs) ∧ Reps K S ds vs
  | .fls ds, v => ∃ a vs, v = .ref a ∧ SqL K S a vs ∧ Reps K S ds vs
  | .obj C ns ds, v => ∃ a dx vs, v = .ref a ∧ S a = some (.ins C dx (ns.zip vs)) ∧ ns.length = vs.length ∧ Reps K S ds vs
  | .dct ks ds, v => ∃ a vs, v = .ref a ∧ S a = some (.dK (ks.zip vs)) ∧ ks.length = vs.length ∧ Reps K S ds vs
  | .raw u, v => v = u
  | .ext φ, v => ∃ a, v = .ref a ∧ S a = some (φ a)
def Reps (K : PySem.W.Frag) (S : Hp) : List D → List V → Prop
  | [], vs => vs = []
  | d :: ds, vs => ∃ v r, vs = v :: r ∧ Rep K S d v ∧ Reps K S ds r
end

theorem same_sqt {K : PySem.W.Frag} {H H' : Hp} {a : Addr} {xs : List V} (e : Same H H') (h : SqT K H a xs) : SqT K H' a xs := by
  rcases h with (h | ⟨o, h⟩) | h
  · exact .inl (.inl (e _ _ h))
  · exact .inl (.inr ⟨o, e _ _ h⟩)
  · exact .inr h

mutual
theorem Rep.mono {K : PySem.W.Frag} {S S' : Hp} (e : Same S S') : ∀ (d : D) (v : V), Rep K S d v → Rep K S' d v
  | .non, _, h => h
  | .bl _, _, h => h
  | .int _, _, h => h
  | .str _, _, h => h
  | .tup ds, _, ⟨a, vs, h1, h2, h3⟩ => ⟨a, vs, h1, same_sqt e h2, Reps.mono e ds vs h3⟩
  | .lst ds, _, ⟨a, vs, h1, h2, h3⟩ => ⟨a, vs, h1, e _ _ h2, Reps.mono e ds vs h3⟩
  | .fls ds, _, ⟨a, vs, h1, h2, h3⟩ => ⟨a, vs, h1, e.seq h2, Reps.mono e ds vs h3⟩
  | .obj C ns ds, _, ⟨a, dx, vs, h1, h2, h3, h4⟩ => ⟨a, dx, vs, h1, e _ _ h2, h3, Reps.mono e ds vs h4⟩
  | .dct ks ds, _, ⟨a, vs, h1, h2, h3, h4⟩ => ⟨a, vs, h1, e _ _ h2, h3, Reps.mono e ds vs h4⟩
  | .raw _, _, h => h
  | .ext φ, _, ⟨a, h1, h2⟩ => ⟨a, h1, e _ _ h2⟩
theorem Reps.mono {K : PySem.W.Frag} {S S' : Hp} (e : Same S S') : ∀ (ds : List D) (vs : List V), Reps K S ds vs → Reps K S' ds vs
  | [], _, h => h
  | d :: ds, _, ⟨v, r, h1, h2, h3⟩ => ⟨v, r, h1, Rep.mono e d v h2, Reps.mono e ds r h3⟩
end

section
variable {K : PySem.W.Frag} {S : Hp}
theorem Reps.length : ∀ {ds : List D} {vs : List V}, Reps K S ds vs → ds.length = vs.length
  | [], _, h => by rw [show _ = [] from h]; rfl
  | d :: ds, _, ⟨v, r, h1, _, h3⟩ => by rw [h1, List.length_cons, List.length_cons, Reps.length h3]
theorem Reps.get : ∀ {ds : List D} {vs : List V} {i : Nat} {d : D}, Reps K S ds vs → ds[i]? = some d → ∃ v, vs[i]? = some v ∧ Rep K S d v
  | [], _, _, _, _, e => by simp at e
  | d :: ds, _, 0, _, ⟨v, r, h1, h2, _⟩, e => by
    simp at e; subst e; subst h1; exact ⟨v, rfl, h2⟩
  | d :: ds, _, i + 1, _, ⟨v, r, h1, _, h3⟩, e => by
    subst h1
    obtain ⟨u, e1, e2⟩ := Reps.get (i := i) h3 (by simpa using e)
    exact ⟨u, by simpa using e1, e2⟩
theorem Reps.get' {ds : List D} {vs : List V} {i : Nat} {v : V} (h : Reps K S ds vs) (e : vs[i]? = some v) : ∃ d, ds[i]? = some d ∧ Rep K S d v := by
  have hi : i < ds.length := by
    rw [h.length]; exact (List.getElem?_eq_some_iff.mp e).1
  obtain ⟨u, e1, e2⟩ := Reps.get (i := i) (d := ds[i]) h (List.getElem?_eq_getElem hi)
  rw [e] at e1; cases e1
  exact ⟨ds[i], List.getElem?_eq_getElem hi, e2⟩
theorem Reps.of_get : ∀ {ds : List D} {vs : List V}, ds.length = vs.length → (∀ (i : Nat) d v, ds[i]? = some d → vs[i]? = some v → Rep K S d v) → Reps K S ds vs
  | [], [], _, _ => rfl
  | d :: ds, v :: vs, hl, h => ⟨v, vs, rfl, h 0 d v rfl rfl, Reps.of_get (by simpa using hl) fun i d' v' e1 e2 => h (i + 1) d' v' (by simpa using e1) (by simpa using e2)⟩
theorem Reps.append : ∀ {ds es : List D} {vs us : List V}, Reps K S ds vs → Reps K S es us → Reps K S (ds ++ es) (vs ++ us)
  | [], _, _, _, h, g => by rw [show _ = [] from h]; exact g
  | d :: ds, _, _, _, ⟨v, r, h1, h2, h3⟩, g => ⟨v, r ++ _, by rw [h1]; rfl, h2, Reps.append h3 g⟩
theorem Reps.nil : Reps K S [] [] := rfl
theorem Reps.cons {d : D} {ds : List D} {v : V} {vs : List V} (h : Rep K S d v) (g : Reps K S ds vs) : Reps K S (d :: ds) (v :: vs) := ⟨v, vs, rfl, h, g⟩
theorem Reps.one {d : D} {v : V} (h : Rep K S d v) : Reps K S [d] [v] := ⟨v, [], rfl, h, rfl⟩
theorem Reps.take {ds : List D} {vs : List V} (n : Nat) (h : Reps K S ds vs) : Reps K S (ds.take n) (vs.take n) := by
  refine Reps.of_get (by simp [h.length]) fun i d v e1 e2 => ?_
  rw [List.getElem?_take] at e1 e2
  split at e1
  · rename_i hi
    rw [if_pos hi] at e2
    obtain ⟨u, q1, q2⟩ := h.get e1
    rw [e2] at q1; cases q1; exact q2
  · cases e1
theorem Reps.drop {ds : List D} {vs : List V} (n : Nat) (h : Reps K S ds vs) : Reps K S (ds.drop n) (vs.drop n) := by
  refine Reps.of_get (by simp [h.length]) fun i d v e1 e2 => ?_
  rw [List.getElem?_drop] at e1 e2
  obtain ⟨u, q1, q2⟩ := h.get e1
  rw [e2] at q1; cases q1; exact q2
theorem Reps.set {ds : List D} {vs : List V} {i : Nat} {d : D} {v : V} (h : Reps K S ds vs) (r : Rep K S d v) : Reps K S (ds.set i d) (vs.set i v) := by
  refine Reps.of_get (by simp [h.length]) fun j d' v' e1 e2 => ?_
  rw [List.getElem?_set] at e1 e2
  split at e1
  · rename_i hi
    rw [if_pos hi] at e2
    split at e1
    · split at e2
      · cases e1; cases e2; exact r
      · cases e2
    · cases e1
  · rename_i hi
    rw [if_neg hi] at e2
    obtain ⟨u, q1, q2⟩ := h.get e1
    rw [e2] at q1; cases q1; exact q2
theorem Reps.reverse {ds : List D} {vs : List V} (h : Reps K S ds vs) : Reps K S ds.reverse vs.reverse := by
  refine Reps.of_get (by simp [h.length]) fun i d v e1 e2 => ?_
  have hi : i < ds.length := by simpa using (List.getElem?_eq_some_iff.mp e1).1
  have hi2 : i < vs.length := by rw [← h.length]; exact hi
  rw [List.getElem?_reverse hi] at e1
  rw [List.getElem?_reverse hi2] at e2
  obtain ⟨u, q1, q2⟩ := h.get e1
  rw [h.length] at q1
  rw [e2] at q1; cases q1; exact q2
theorem Reps.rep {ds : List D} {vs : List V} (h : Reps K S ds vs) : ∀ n : Nat, Reps K S (List.replicate n ds).flatten (List.replicate n vs).flatten
  | 0 => rfl
  | n + 1 => by rw [List.replicate_succ, List.replicate_succ, List.flatten_cons, List.flatten_cons]; exact h.append (h.rep n)
/-- typed lists -/
theorem Reps.ints : ∀ {ns : List Int} {vs : List V}, Reps K S (ns.map D.int) vs → vs = ns.map V.int
  | [], _, h => h
  | n :: ns, _, ⟨v, r, h1, h2, h3⟩ => by rw [h1, show v = V.int n from h2, Reps.ints h3]; rfl
theorem Reps.strs : ∀ {ns : List Str} {vs : List V}, Reps K S (ns.map D.str) vs → vs = ns.map V.str
  | [], _, h => h
  | n :: ns, _, ⟨v, r, h1, h2, h3⟩ => by rw [h1, show v = V.str n from h2, Reps.strs h3]; rfl
theorem Reps.bls : ∀ {ns : List Bool} {vs : List V}, Reps K S (ns.map D.bl) vs → vs = ns.map V.bl
  | [], _, h => h
  | n :: ns, _, ⟨v, r, h1, h2, h3⟩ => by rw [h1, show v = V.bl n from h2, Reps.bls h3]; rfl
theorem Reps.ofInts : ∀ {ns : List Int}, Reps K S (ns.map D.int) (ns.map V.int)
  | [] => rfl
  | n :: ns => ⟨.int n, _, rfl, rfl, Reps.ofInts⟩
theorem Reps.ofStrs : ∀ {ns : List Str}, Reps K S (ns.map D.str) (ns.map V.str)
  | [] => rfl
  | n :: ns => ⟨.str n, _, rfl, rfl, Reps.ofStrs⟩
theorem Reps.ofBls : ∀ {ns : List Bool}, Reps K S (ns.map D.bl) (ns.map V.bl)
  | [] => rfl
  | n :: ns => ⟨.bl n, _, rfl, rfl, Reps.ofBls⟩
end

/-- data that no heap bears -/
def Scal : D → Prop
  | .non | .bl _ | .int _ | .str _ | .raw _ => True
  | _ => False
theorem Rep.scal {K : PySem.W.Frag} {S S' : Hp} {d : D} {v : V} (h : Scal d) (r : Rep K S d v) : Rep K S' d v := by
  cases d <;> first | exact r | exact h.elim

/-! ### the state of a def's slots -/
/-- what an owned object holds -/
inductive Ob where
  | lst (ds : List D) | ins (C : Addr) (ns : List Str) (ds : List D) | dct (ks : List Key) (ds : List D)
def Ob.d : Ob → D
  | .lst ds => .lst ds
  | .ins C ns ds => .obj C ns ds
  | .dct ks ds => .dct ks ds
def ObR (K : PySem.W.Frag) (S H : Hp) (a : Addr) : Ob → Prop
  | .lst ds => ∃ vs, H a = some (.lst vs) ∧ Reps K S ds vs
  | .ins C ns ds => ∃ dx vs, H a = some (.ins C dx (ns.zip vs)) ∧ ns.length = vs.length ∧ Reps K S ds vs
  | .dct ks ds => ∃ vs, H a = some (.dK (ks.zip vs)) ∧ ks.length = vs.length ∧ Reps K S ds vs
theorem ObR.there {K : PySem.W.Frag} {S H : Hp} {a : Addr} {o : Ob} (h : ObR K S H a o) : ∃ x, H a = some x := by
  cases o with
  | lst ds => obtain ⟨vs, h, _⟩ := h; exact ⟨_, h⟩
  | ins C ns ds => obtain ⟨dx, vs, h, _⟩ := h; exact ⟨_, h⟩
  | dct ks ds => obtain ⟨vs, h, _⟩ := h; exact ⟨_, h⟩
theorem ObR.mono {K : PySem.W.Frag} {S S' H H' : Hp} {a : Addr} {o : Ob} (e : Same S S') (k : ∀ x, H a = some x → H' a = some x) (h : ObR K S H a o) : ObR K S' H' a o := by
  cases o with
  | lst ds => obtain ⟨vs, h, r⟩ := h; exact ⟨vs, k _ h, Reps.mono e _ _ r⟩
  | ins C ns ds => obtain ⟨dx, vs, h, l, r⟩ := h; exact ⟨dx, vs, k _ h, l, Reps.mono e _ _ r⟩
  | dct ks ds => obtain ⟨vs, h, l, r⟩ := h; exact ⟨vs, k _ h, l, Reps.mono e _ _ r⟩
theorem ObR.rep {K : PySem.W.Frag} {S H : Hp} {a : Addr} {o : Ob} (k : ∀ x, H a = some x → S a = some x) (h : ObR K S H a o) : Rep K S o.d (.ref a) := by
  cases o with
  | lst ds => obtain ⟨vs, h, r⟩ := h; exact ⟨a, vs, rfl, k _ h, r⟩
  | ins C ns ds => obtain ⟨dx, vs, h, l, r⟩ := h; exact ⟨a, dx, vs, rfl, k _ h, l, r⟩
  | dct ks ds => obtain ⟨vs, h, l, r⟩ := h; exact ⟨a, vs, rfl, k _ h, l, r⟩

inductive Sl where
  | un | sh (d : D) | ow (o : Ob) | pr (p : Addr) (o : Ob)
abbrev Gm := List Sl
/-- slot i owns the object at a -/
def OwnAt (Γ : Gm) (σ : L2.St) (i : Nat) (a : Addr) : Prop := ((∃ o, Γ[i]? = some (.ow o)) ∨ ∃ p o, Γ[i]? = some (.pr p o)) ∧ σ[i]? = some (some (.ref a))
def Own (Γ : Gm) (σ : L2.St) (a : Addr) : Prop := ∃ i, OwnAt Γ σ i a
/-- a def's entry: the heap, the shared part, the owned parameters -/
structure Fr where
  H0 : Hp
  S0 : Hp
  op : Addr → Prop
def SlOk (K : PySem.W.Frag) (F : Fr) (S H : Hp) (x : Option (Option V)) : Sl → Prop
  | .un => True
  | .sh d => ∃ v, x = some (some v) ∧ Rep K S d v
  | .ow o => ∃ a, x = some (some (.ref a)) ∧ S a = none ∧ (F.H0 a = none ∨ F.op a) ∧ ObR K S H a o
  | .pr p o => x = some (some (.ref p)) ∧ S p = none ∧ (F.H0 p = none ∨ F.op p) ∧ ObR K S H p o
structure RS (K : PySem.W.Frag) (F : Fr) (Γ : Gm) (σ : L2.St) (H S : Hp) : Prop where
  s0 : Same F.S0 S
  sh : Same S H
  new : ∀ b o, F.H0 b = some o → ¬ F.op b → F.S0 b = none → S b = none
  kp : ∀ b o, ¬ F.op b → F.H0 b = some o → H b = some o
  th : ∀ b o, F.H0 b = some o → ∃ o', H b = some o'
  sl : ∀ (i : Nat) s, Γ[i]? = some s → SlOk K F S H σ[i]? s
  ne : ∀ i j a, i ≠ j → OwnAt Γ σ i a → OwnAt Γ σ j a → False
  len : Γ.length = σ.length

/-- an expression's end: shared data, a new object of one's own, the object that slot i owns -/
inductive Rs where
  | sh (d : D) | ow (o : Ob) | br (i : Nat)
def RsOk (K : PySem.W.Frag) (F : Fr) (Γ : Gm) (σ : L2.St) (H S : Hp) : Rs → V → Prop
  | .sh d, v => Rep K S d v
  | .ow o, v => ∃ a, v = .ref a ∧ S a = none ∧ F.H0 a = none ∧ ObR K S H a o ∧ ¬ Own Γ σ a
  | .br i, v => ∃ a, v = .ref a ∧ OwnAt Γ σ i a

section
variable {K : PySem.W.Frag} {F : Fr} {Γ Γ' : Gm} {σ σ' : L2.St} {H H' S S' : Hp} {a : Addr} {i : Nat}
theorem RS.own (R : RS K F Γ σ H S) (h : OwnAt Γ σ i a) : S a = none ∧ (F.H0 a = none ∨ F.op a) ∧ ∃ o, ObR K S H a o := by
  obtain ⟨⟨o, e⟩ | ⟨p, o, e⟩, q⟩ := h
  · obtain ⟨b, e1, e2, e3, e4⟩ := R.sl i _ e
    rw [q] at e1; cases e1
    exact ⟨e2, e3, o, e4⟩
  · obtain ⟨e1, e2, e3, e4⟩ := R.sl i _ e
    rw [q] at e1; cases e1
    exact ⟨e2, e3, o, e4⟩
theorem RS.ownNone (R : RS K F Γ σ H S) (n : H a = none) : ¬ Own Γ σ a := fun ⟨i, h⟩ => by
  obtain ⟨_, _, o, q⟩ := R.own h
  obtain ⟨x, e⟩ := q.there
  rw [n] at e; cases e
theorem RS.h0None (R : RS K F Γ σ H S) (n : H a = none) : F.H0 a = none := by
  cases e : F.H0 a with
  | none => rfl
  | some o =>
    obtain ⟨o', q⟩ := R.th a o e
    rw [n] at q; cases q
theorem RS.sNone (R : RS K F Γ σ H S) (n : H a = none) : S a = none := by
  cases e : S a with
  | none => rfl
  | some o => rw [R.sh a o e] at n; cases n
/-- only new objects, not shared -/
theorem RS.grow (R : RS K F Γ σ H S) (h : Same H H') : RS K F Γ σ H' S := by
  refine ⟨R.s0, R.sh.trans h, R.new, fun b o n e => h b o (R.kp b o n e), ?_, ?_, R.ne, R.len⟩
  · intro b o e
    obtain ⟨o', q⟩ := R.th b o e
    exact ⟨o', h b o' q⟩
  · intro j s e
    have q := R.sl j s e
    cases s with
    | un => trivial
    | sh d => exact q
    | ow o => obtain ⟨b, e1, e2, e3, e4⟩ := q; exact ⟨b, e1, e2, e3, e4.mono (.refl _) (h b)⟩
    | pr p o => obtain ⟨e1, e2, e3, e4⟩ := q; exact ⟨e1, e2, e3, e4.mono (.refl _) (h p)⟩
/-- the shared part grows by what is new -/
theorem RS.share (R : RS K F Γ σ H S) (h1 : Same S S') (h2 : Same S' H) (h3 : ∀ b o, S' b = some o → S b = none → F.H0 b = none ∧ ¬ Own Γ σ b) : RS K F Γ σ H S' := by
  refine ⟨R.s0.trans h1, h2, ?_, R.kp, R.th, ?_, R.ne, R.len⟩
  · intro b o e n z
    have q := R.new b o e n z
    cases e1 : S' b with
    | none => rfl
    | some u =>
      have := (h3 b u e1 q).1
      rw [e] at this
      cases this
  · intro j s e
    have q := R.sl j s e
    have nn : ∀ b, OwnAt Γ σ j b → S b = none → S' b = none := fun b ow z => by
      cases e1 : S' b with
      | none => rfl
      | some u => exact ((h3 b u e1 z).2 ⟨j, ow⟩).elim
    cases s with
    | un => trivial
    | sh d => obtain ⟨v, e1, e2⟩ := q; exact ⟨v, e1, Rep.mono h1 _ _ e2⟩
    | ow o => obtain ⟨b, e1, e2, e3, e4⟩ := q; exact ⟨b, e1, nn b ⟨.inl ⟨o, e⟩, e1⟩ e2, e3, e4.mono h1 fun _ z => z⟩
    | pr p o => obtain ⟨e1, e2, e3, e4⟩ := q; exact ⟨e1, nn p ⟨.inr ⟨p, o, e⟩, e1⟩ e2, e3, e4.mono h1 fun _ z => z⟩
theorem same_upd {H : Hp} {p : Addr} {o : HO} (h : H p = none) : Same H (upd H p o) := fun b x e => by
  rw [upd_ne (ne_of_none e h)]
  exact e
/-- a new shared object -/
theorem RS.laid (R : RS K F Γ σ H S) {p : Addr} {o : HO} (n : H p = none) : RS K F Γ σ (upd H p o) (upd S p o) ∧ Same S (upd S p o) := by
  have hs := same_upd (o := o) (R.sNone n)
  refine ⟨(R.grow (same_upd (o := o) n)).share hs (fun b x e => ?_) (fun b x e z => ?_), hs⟩
  · by_cases hb : b = p
    · subst hb; rw [upd_same] at e ⊢; exact e
    · rw [upd_ne hb] at e ⊢; exact R.sh b x e
  · by_cases hb : b = p
    · subst hb; exact ⟨R.h0None n, R.ownNone n⟩
    · rw [upd_ne hb] at e; rw [e] at z; cases z
/-- rebase: the frame of this very state -/
def Fr.here (Γ : Gm) (σ : L2.St) (H S : Hp) : Fr := ⟨H, S, Own Γ σ⟩
theorem RS.rebase (R : RS K F Γ σ H S) : RS K (.here Γ σ H S) Γ σ H S := by
  refine ⟨.refl _, R.sh, fun b o _ _ z => z, fun b o _ e => e, fun b o e => ⟨o, e⟩, ?_, R.ne, R.len⟩
  intro j s e
  have q := R.sl j s e
  cases s with
  | un => trivial
  | sh d => exact q
  | ow o => obtain ⟨b, e1, e2, e3, e4⟩ := q; exact ⟨b, e1, e2, .inr ⟨j, .inl ⟨o, e⟩, e1⟩, e4⟩
  | pr p o => obtain ⟨e1, e2, e3, e4⟩ := q; exact ⟨e1, e2, .inr ⟨j, .inr ⟨p, o, e⟩, e1⟩, e4⟩
theorem RS.back (R : RS K F Γ σ H S) (R' : RS K (.here Γ σ H S) Γ' σ' H' S') : RS K F Γ' σ' H' S' := by
  have no : ∀ b o, F.H0 b = some o → ¬ F.op b → ¬ Own Γ σ b := fun b o e n ⟨i, ow⟩ => by
    rcases (R.own ow).2.1 with z | z
    · rw [e] at z; cases z
    · exact n z
  have old : ∀ b, ((Fr.here Γ σ H S).H0 b = none ∨ (Fr.here Γ σ H S).op b) → F.H0 b = none ∨ F.op b := fun b z => by
    rcases z with z | ⟨i, ow⟩
    · exact .inl (R.h0None z)
    · exact (R.own ow).2.1
  refine ⟨R.s0.trans R'.s0, R'.sh, fun b o e n z => R'.new b o (R.kp b o n e) (no b o e n) (R.new b o e n z), fun b o n e => R'.kp b o (no b o e n) (R.kp b o n e),
    fun b o e => (R.th b o e).elim fun o' q => R'.th b o' q, fun j s e => ?_, R'.ne, R'.len⟩
  have q := R'.sl j s e
  cases s with
  | un => trivial
  | sh d => exact q
  | ow o => obtain ⟨b, e1, e2, e3, e4⟩ := q; exact ⟨b, e1, e2, old b e3, e4⟩
  | pr p o => obtain ⟨e1, e2, e3, e4⟩ := q; exact ⟨e1, e2, old p e3, e4⟩
/-- forgetting -/
def Wk (Γ Γ' : Gm) : Prop := Γ'.length = Γ.length ∧ ∀ (i : Nat) s, Γ'[i]? = some s → s = .un ∨ Γ[i]? = some s
theorem RS.weak (R : RS K F Γ σ H S) (w : Wk Γ Γ') : RS K F Γ' σ H S := by
  have ow : ∀ i a, OwnAt Γ' σ i a → OwnAt Γ σ i a := fun i a ⟨h, q⟩ => by
    refine ⟨?_, q⟩
    rcases h with ⟨o, e⟩ | ⟨p, o, e⟩
    · rcases w.2 i _ e with z | z
      · cases z
      · exact .inl ⟨o, z⟩
    · rcases w.2 i _ e with z | z
      · cases z
      · exact .inr ⟨p, o, z⟩
  refine ⟨R.s0, R.sh, R.new, R.kp, R.th, fun j s e => ?_, fun i j a n x y => R.ne i j a n (ow i a x) (ow j a y), w.1.trans R.len⟩
  rcases w.2 j s e with z | z
  · subst z; trivial
  · exact R.sl j s z
theorem Wk.refl (Γ : Gm) : Wk Γ Γ := ⟨rfl, fun _ _ e => .inr e⟩
theorem Wk.trans {Γ1 Γ2 Γ3 : Gm} (a : Wk Γ1 Γ2) (b : Wk Γ2 Γ3) : Wk Γ1 Γ3 := ⟨b.1.trans a.1, fun i s e => by
  rcases b.2 i s e with z | z
  · exact .inl z
  · exact a.2 i s z⟩
end
end PL

set_option Elab.async false
set_option linter.all false
set_option maxRecDepth 100000
set_option maxHeartbeats 1000000
namespace PL
open PySem PySem.Spec PyProof.Rows L2
abbrev Ex := PySem.Expr
/-! ### the greatest readings -/
section
variable {X : Cx} {e : Ex} {σ : L2.St} {H : Hp}
def WE (X : Cx) (e : Ex) : TE := fun σ H Q => ∀ pins s, Inv X pins σ H s → wpAny (model X.prog X.w) X.A (eval e X.env) (EP X pins σ Q) X.xe s
theorem we_pe : PE X e (WE X e) := ⟨fun pins s σ H Q I h => h pins s I⟩
theorem pe_we {t : TE} {Q : VK} (h : PE X e t) (q : t σ H Q) : WE X e σ H Q := fun pins s I => h.run pins s σ H Q I q
def WT (X : Cx) (e : Ex) : TT := fun σ H Q => ∀ pins s, Inv X pins σ H s → wpAny (model X.prog X.w) X.A (isTrue e X.env (eval e X.env)) (TP X pins σ Q) X.xe s
theorem wt_pt : PT X e (WT X e) := ⟨fun pins s σ H Q I h => h pins s I⟩
theorem pt_wt {t : TT} {Q : Bool → Hp → Prop} (h : PT X e t) (q : t σ H Q) : WT X e σ H Q := fun pins s I => h.run pins s σ H Q I q
def WW (X : Cx) (e : Ex) : TT := fun σ H Q => ∀ whole pins s, Inv X pins σ H s → wpAny (model X.prog X.w) X.A (isTrue e X.env whole) (TP X pins σ Q) X.xe s
theorem ww_pw : PW X e (WW X e) := ⟨fun wh pins s σ H Q I h => h wh pins s I⟩
theorem pw_ww {t : TT} {Q : Bool → Hp → Prop} (h : PW X e t) (q : t σ H Q) : WW X e σ H Q := fun wh pins s I => h.run wh pins s σ H Q I q
def WA (X : Cx) (es : List Ex) : TA := fun σ H Q => ∀ pos pins s, Inv X pins σ H s → wpAny (model X.prog X.w) X.A (spliced (backTo pos (starEach es X.env))) (AP X pins σ Q) X.xe s
theorem wa_pa {es : List Ex} : PA X es (WA X es) := ⟨fun pos pins s σ H Q I h => h pos pins s I⟩
theorem pa_wa {es : List Ex} {t : TA} {Q : List V → Hp → Prop} (h : PA X es t) (q : t σ H Q) : WA X es σ H Q := fun pos pins s I => h.run pos pins s σ H Q I q
def W1 (X : Cx) (st : Stmt) : TS := fun D σ H => ∀ pins s, Inv X pins σ H s → wpAny (model X.prog X.w) X.A (exec st X.env) (SP X pins D) X.xe s
theorem w1_ps {st : Stmt} : PS X st (W1 X st) := ⟨fun pins s σ H D I h => h pins s I⟩
theorem ps_w1 {st : Stmt} {t : TS} {D : Ends} (h : PS X st t) (q : t D σ H) : W1 X st D σ H := fun pins s I => h.run pins s σ H D I q
def WS (X : Cx) (st : List Stmt) : TS := fun D σ H => ∀ pins s, Inv X pins σ H s → wpAny (model X.prog X.w) X.A (execs st X.env) (SP X pins D) X.xe s
theorem ws_pss {st : List Stmt} : PSs X st (WS X st) := ⟨fun pins s σ H D I h => h pins s I⟩
theorem pss_ws {st : List Stmt} {t : TS} {D : Ends} (h : PSs X st t) (q : t D σ H) : WS X st D σ H := fun pins s I => h.run pins s σ H D I q
end
/-! ### judgements -/
def EX (X : Cx) (Γ : Gm) (e : Ex) (r : Rs) (Γ' : Gm) : Prop := ∀ F σ H S (Q : VK), RS X.K F Γ σ H S →
  (∀ v H' S', RS X.K F Γ' σ H' S' → Same S S' → RsOk X.K F Γ' σ H' S' r v → Q v H') → WE X e σ H Q
def TX (X : Cx) (Γ : Gm) (e : Ex) (b : Bool) (Γ' : Gm) : Prop := ∀ F σ H S (Q : Bool → Hp → Prop), RS X.K F Γ σ H S →
  (∀ H' S', RS X.K F Γ' σ H' S' → Same S S' → Q b H') → WT X e σ H Q
def WX (X : Cx) (Γ : Gm) (e : Ex) (b : Bool) (Γ' : Gm) : Prop := ∀ F σ H S (Q : Bool → Hp → Prop), RS X.K F Γ σ H S →
  (∀ H' S', RS X.K F Γ' σ H' S' → Same S S' → Q b H') → WW X e σ H Q
def AX (X : Cx) (Γ : Gm) (es : List Ex) (ds : List D) (Γ' : Gm) : Prop := ∀ F σ H S (Q : List V → Hp → Prop), RS X.K F Γ σ H S →
  (∀ vs H' S', RS X.K F Γ' σ H' S' → Same S S' → Reps X.K S' ds vs → Q vs H') → WA X es σ H Q
inductive Out where
  | nx (Γ : Gm) | rt (r : Rs) (Γ : Gm) | bk (Γ : Gm) | ct (Γ : Gm)
def OutOk (K : PySem.W.Frag) (F : Fr) (S : Hp) (D : Ends) : Out → Prop
  | .nx Γ => ∀ σ H S', RS K F Γ σ H S' → Same S S' → D.nx σ H
  | .bk Γ => ∀ σ H S', RS K F Γ σ H S' → Same S S' → D.bk σ H
  | .ct Γ => ∀ σ H S', RS K F Γ σ H S' → Same S S' → D.ct σ H
  | .rt r Γ => ∀ v σ H S', RS K F Γ σ H S' → Same S S' → RsOk K F Γ σ H S' r v → D.rt v H
def S1 (X : Cx) (Γ : Gm) (st : Stmt) (o : Out) : Prop := ∀ F σ H S D, RS X.K F Γ σ H S → OutOk X.K F S D o → W1 X st D σ H
def SX (X : Cx) (Γ : Gm) (st : List Stmt) (o : Out) : Prop := ∀ F σ H S D, RS X.K F Γ σ H S → OutOk X.K F S D o → WS X st D σ H
theorem OutOk.mono {K : PySem.W.Frag} {F : Fr} {S S' : Hp} {D : Ends} {o : Out} (e : Same S S') (h : OutOk K F S D o) : OutOk K F S' D o := by
  cases o with
  | nx Γ => exact fun σ H S'' R s => h σ H S'' R (e.trans s)
  | bk Γ => exact fun σ H S'' R s => h σ H S'' R (e.trans s)
  | ct Γ => exact fun σ H S'' R s => h σ H S'' R (e.trans s)
  | rt r Γ => exact fun v σ H S'' R s q => h v σ H S'' R (e.trans s) q
/-- a state may be seen as another -/
def Cv (K : PySem.W.Frag) (Γ Γ' : Gm) : Prop := ∀ F σ H S, RS K F Γ σ H S → ∃ S', Same S S' ∧ RS K F Γ' σ H S'
structure Gd (k : Nat) (X : Cx) : Prop where
  calm : X.calm = true
  nd : X.N.Nodup
  po : PassesOwn (model X.prog X.w) X.A X.env X.xe
  rm : Room k X.A
section
variable {X : Cx} {Γ Γ1 Γ2 Γ3 : Gm} {e a b c : Ex} {pos : Pos} {d d1 d2 : D} {r : Rs}
theorem Cv.refl {K : PySem.W.Frag} : Cv K Γ Γ := fun F σ H S R => ⟨S, .refl _, R⟩
theorem Cv.trans {K : PySem.W.Frag} (h1 : Cv K Γ Γ1) (h2 : Cv K Γ1 Γ2) : Cv K Γ Γ2 := fun F σ H S R => by
  obtain ⟨S1, e1, R1⟩ := h1 F σ H S R
  obtain ⟨S2, e2, R2⟩ := h2 F σ H S1 R1
  exact ⟨S2, e1.trans e2, R2⟩
theorem Wk.cv {K : PySem.W.Frag} (w : Wk Γ Γ1) : Cv K Γ Γ1 := fun F σ H S R => ⟨S, .refl _, R.weak w⟩
theorem e_cv (w : Cv X.K Γ Γ1) (h : EX X Γ1 e r Γ2) : EX X Γ e r Γ2 := fun F σ H S Q R q => by
  obtain ⟨S1, e1, R1⟩ := w F σ H S R
  exact h F σ H S1 Q R1 fun v H' S' R' s ok => q v H' S' R' (e1.trans s) ok
theorem s_cv {st : List Stmt} {o : Out} (w : Cv X.K Γ Γ1) (h : SX X Γ1 st o) : SX X Γ st o := fun F σ H S D R q => by
  obtain ⟨S1, e1, R1⟩ := w F σ H S R
  exact h F σ H S1 D R1 (q.mono e1)
theorem s_wk {st : List Stmt} (h : SX X Γ st (.nx Γ1)) (w : Cv X.K Γ1 Γ2) : SX X Γ st (.nx Γ2) := fun F σ H S D R q =>
  h F σ H S D R fun σ' H' S' R' s => by
    obtain ⟨S2, e2, R2⟩ := w F σ' H' S' R'
    exact q σ' H' S2 R2 (s.trans e2)
theorem s1_wk {st : Stmt} (h : S1 X Γ st (.nx Γ1)) (w : Cv X.K Γ1 Γ2) : S1 X Γ st (.nx Γ2) := fun F σ H S D R q =>
  h F σ H S D R fun σ' H' S' R' s => by
    obtain ⟨S2, e2, R2⟩ := w F σ' H' S' R'
    exact q σ' H' S2 R2 (s.trans e2)
theorem e_wk (h : EX X Γ e (.sh d) Γ1) (w : Cv X.K Γ1 Γ2) : EX X Γ e (.sh d) Γ2 := fun F σ H S Q R q =>
  h F σ H S Q R fun v H' S' R' s ok => by
    obtain ⟨S2, e2, R2⟩ := w F σ H' S' R'
    exact q v H' S2 R2 (s.trans e2) (Rep.mono e2 _ _ ok)
/-- a new object of one's own is shared -/
theorem RS.frz {K : PySem.W.Frag} {F : Fr} {Γ : Gm} {σ : L2.St} {H S : Hp} {o : Ob} {v : V} (R : RS K F Γ σ H S) (h : RsOk K F Γ σ H S (.ow o) v) : ∃ S', Same S S' ∧ RS K F Γ σ H S' ∧ Rep K S' o.d v := by
  obtain ⟨p, rfl, n, n0, ob, no⟩ := h
  obtain ⟨x, hx⟩ := ob.there
  have hs := same_upd (o := x) n
  refine ⟨upd S p x, hs, R.share hs (fun b u e => ?_) (fun b u e z => ?_), ObR.rep (H := H) (fun u q => ?_) (ob.mono hs fun _ z => z)⟩
  · by_cases hb : b = p
    · subst hb; rw [upd_same] at e; cases e; exact hx
    · rw [upd_ne hb] at e; exact R.sh b u e
  · by_cases hb : b = p
    · subst hb; exact ⟨n0, no⟩
    · rw [upd_ne hb] at e; rw [e] at z; cases z
  · rw [upd_same, ← hx, q]
theorem e_frz {o : Ob} (h : EX X Γ e (.ow o) Γ1) : EX X Γ e (.sh o.d) Γ1 := fun F σ H S Q R q =>
  h F σ H S Q R fun v H' S' R' s ok => by
    obtain ⟨S2, e2, R2, rp⟩ := R'.frz ok
    exact q v H' S2 R2 (s.trans e2) rp
/-- a slot's own object is shared from now on -/
theorem cv_frz {K : PySem.W.Frag} {i : Nat} {o : Ob} (h : Γ[i]? = some (.ow o)) : Cv K Γ (Γ.set i (.sh o.d)) := fun F σ H S R => by
  obtain ⟨p, ep, n, n0, ob⟩ := R.sl i _ h
  obtain ⟨x, hx⟩ := ob.there
  have hs := same_upd (o := x) n
  have hi : i < Γ.length := (List.getElem?_eq_some_iff.mp h).1
  have own : OwnAt Γ σ i p := ⟨.inl ⟨o, h⟩, ep⟩
  have ow : ∀ j b, OwnAt (Γ.set i (.sh o.d)) σ j b → j ≠ i ∧ OwnAt Γ σ j b := fun j b ⟨hj, q⟩ => by
    by_cases e : j = i
    · subst e
      rw [List.getElem?_set_self hi] at hj
      rcases hj with ⟨_, z⟩ | ⟨_, _, z⟩ <;> cases z
    · rw [List.getElem?_set_ne (Ne.symm e)] at hj
      exact ⟨e, hj, q⟩
  refine ⟨upd S p x, hs, R.s0.trans hs, fun b u e => ?_, fun b u e n' z => ?_, R.kp, R.th, fun j s e => ?_, fun j k b ne q1 q2 => R.ne j k b ne (ow j b q1).2 (ow k b q2).2, by rw [List.length_set]; exact R.len⟩
  · by_cases hb : b = p
    · subst hb; rw [upd_same] at e; cases e; exact hx
    · rw [upd_ne hb] at e; exact R.sh b u e
  · have hb : b ≠ p := fun hb => by
      subst hb
      rcases n0 with z1 | z1
      · rw [e] at z1; cases z1
      · exact n' z1
    rw [upd_ne hb]
    exact R.new b u e n' z
  · by_cases hj : j = i
    · subst hj
      rw [List.getElem?_set_self hi] at e
      cases e
      exact ⟨_, ep, ObR.rep (H := H) (fun u q => by rw [upd_same, ← hx, q]) (ob.mono hs fun _ z => z)⟩
    · rw [List.getElem?_set_ne (Ne.symm hj)] at e
      have q := R.sl j s e
      have nn : ∀ b, OwnAt Γ σ j b → S b = none → (upd S p x) b = none := fun b w z => by
        rw [upd_ne (fun hb : b = p => R.ne j i b hj w (by rw [hb]; exact own))]
        exact z
      cases s with
      | un => trivial
      | sh d => obtain ⟨v, e1, e2⟩ := q; exact ⟨v, e1, Rep.mono hs _ _ e2⟩
      | ow o' => obtain ⟨b, e1, e2, e3, e4⟩ := q; exact ⟨b, e1, nn b ⟨.inl ⟨o', e⟩, e1⟩ e2, e3, e4.mono hs fun _ z => z⟩
      | pr p' o' => obtain ⟨e1, e2, e3, e4⟩ := q; exact ⟨e1, nn p' ⟨.inr ⟨p', o', e⟩, e1⟩ e2, e3, e4.mono hs fun _ z => z⟩

/-! ### leaves -/
theorem e_of {t : TE} (h : PE X e t) (v : V) (hv : ∀ S, Rep X.K S d v) (ht : ∀ σ H (Q : VK), Q v H → t σ H Q) : EX X Γ e (.sh d) Γ := fun F σ H S Q R q =>
  pe_we h (ht σ H Q (q v H S R (.refl _) (hv S)))
theorem e_int {i : Int} {j} : EX X Γ (.Constant (.int i) j pos) (.sh (.int i)) Γ := e_of pe_int (.int i) (fun _ => rfl) fun _ _ _ q => q
theorem e_str {x : Str} {j} : EX X Γ (.Constant (.str x) j pos) (.sh (.str x)) Γ := e_of pe_str (.str x) (fun _ => rfl) fun _ _ _ q => q
theorem e_bl {x : Bool} {j} : EX X Γ (.Constant (.bool x) j pos) (.sh (.bl x)) Γ := e_of pe_bl (.bl x) (fun _ => rfl) fun _ _ _ q => q
theorem e_non {j} : EX X Γ (.Constant .none j pos) (.sh .non) Γ := e_of pe_non .non (fun _ => rfl) fun _ _ _ q => q
theorem e_glob {x : Str} {v : V} {u : Value} (hm : X.mg x = some u) (r : RelV v u) (hv : ∀ S, Rep X.K S d v) (hg : Gl X x := by rfl) (hd : (x == ("__debug__" : Str)) = false := by decide) : EX X Γ (.Name x pos) (.sh d) Γ :=
  e_of (pe_glob hg hm r hd) v hv fun _ _ _ q => q
theorem e_ty {x : Str} {T : String} (hm : X.mg x = none) (hv : bootBuiltins x = some (.type T)) (hg : Gl X x := by rfl) (hn : x ≠ "__name__" := by decide) (hd : (x == ("__debug__" : Str)) = false := by decide) : EX X Γ (.Name x pos) (.sh (.raw (.ty T))) Γ :=
  e_of (pe_bltn hg hm hv (v := .ty T) rfl hn hd) (.ty T) (fun _ => rfl) fun _ _ _ q => q
theorem e_var (i : Nat) {x : Str} (h : Γ[i]? = some (.sh d) := by rfl) (hN : X.N[i]? = some x := by rfl) (hv : Vis X.env.scope x := by first | exact Or.inl rfl | exact Or.inr (Or.inl rfl) | exact Or.inr (Or.inr rfl)) (hd : (x == ("__debug__" : Str)) = false := by decide)
    (hcd : (x == ("__classdict__" : Str)) = false := by decide) : EX X Γ (.Name x pos) (.sh d) Γ := fun F σ H S Q R q => by
  obtain ⟨v, e, rp⟩ := R.sl i _ h
  exact pe_we (pe_var hN hv hd hcd) ⟨v, e, q v H S R (.refl _) rp⟩
theorem e_varB (i : Nat) {x : Str} {o : Ob} (h : Γ[i]? = some (.ow o) := by rfl) (hN : X.N[i]? = some x := by rfl) (hv : Vis X.env.scope x := by first | exact Or.inl rfl | exact Or.inr (Or.inl rfl) | exact Or.inr (Or.inr rfl)) (hd : (x == ("__debug__" : Str)) = false := by decide)
    (hcd : (x == ("__classdict__" : Str)) = false := by decide) : EX X Γ (.Name x pos) (.br i) Γ := fun F σ H S Q R q => by
  obtain ⟨p, e, _⟩ := R.sl i _ h
  exact pe_we (pe_var hN hv hd hcd) ⟨_, e, q _ H S R (.refl _) ⟨p, rfl, .inl ⟨o, h⟩, e⟩⟩
theorem e_varP (i : Nat) {x : Str} {o : Ob} {p : Addr} (h : Γ[i]? = some (.pr p o) := by rfl) (hN : X.N[i]? = some x := by rfl) (hv : Vis X.env.scope x := by first | exact Or.inl rfl | exact Or.inr (Or.inl rfl) | exact Or.inr (Or.inr rfl)) (hd : (x == ("__debug__" : Str)) = false := by decide)
    (hcd : (x == ("__classdict__" : Str)) = false := by decide) : EX X Γ (.Name x pos) (.br i) Γ := fun F σ H S Q R q => by
  obtain ⟨e, _⟩ := R.sl i _ h
  exact pe_we (pe_var hN hv hd hcd) ⟨_, e, q _ H S R (.refl _) ⟨p, rfl, .inr ⟨p, o, h⟩, e⟩⟩

/-! ### operations on shared data -/
def OpS (X : Cx) (f : Value → Value → Sem Value) (d1 d2 : D) (r : Rs) : Prop := ∃ rr, OpR X f rr ∧ ∀ Γ F σ H S x y (Q : VK), RS X.K F Γ σ H S → Rep X.K S d1 x → Rep X.K S d2 y →
  (∀ v H' S', RS X.K F Γ σ H' S' → Same S S' → RsOk X.K F Γ σ H' S' r v → Q v H') → rr x y H Q
theorem e_bin {op : Operator} (ho : OpS X (binaryOp op) d1 d2 r) (h1 : EX X Γ a (.sh d1) Γ1) (h2 : EX X Γ1 b (.sh d2) Γ2) : EX X Γ (.BinOp a op b pos) r Γ2 := fun F σ H S Q R q => by
  obtain ⟨rr, hr, hq⟩ := ho
  refine pe_we (pe_op hr we_pe we_pe) (h1 F σ H S _ R fun x H1 S1 R1 s1 r1 => h2 F σ H1 S1 _ R1 fun y H2 S2 R2 s2 r2 => hq Γ2 F σ H2 S2 x y Q R2 (Rep.mono s2 _ _ r1) r2 fun v H3 S3 R3 s3 ok => q v H3 S3 R3 ((s1.trans s2).trans s3) ok)
theorem e_cmp {op : CmpOp} (ho : OpS X (compareOp op) d1 d2 r) (h1 : EX X Γ a (.sh d1) Γ1) (h2 : EX X Γ1 b (.sh d2) Γ2) (hm : behindInMarks op b = false := by first | exact nomark _ | rfl) : EX X Γ (.Compare a [op] [b] pos) r Γ2 := fun F σ H S Q R q => by
  obtain ⟨rr, hr, hq⟩ := ho
  refine pe_we (pe_cmpR hr we_pe we_pe hm) (h1 F σ H S _ R fun x H1 S1 R1 s1 r1 => h2 F σ H1 S1 _ R1 fun y H2 S2 R2 s2 r2 => hq Γ2 F σ H2 S2 x y Q R2 (Rep.mono s2 _ _ r1) r2 fun v H3 S3 R3 s3 ok => q v H3 S3 R3 ((s1.trans s2).trans s3) ok)
theorem t_cmp {op : CmpOp} {k : Bool} (ho : OpS X (compareOp op) d1 d2 (.sh (.bl k))) (h1 : EX X Γ a (.sh d1) Γ1) (h2 : EX X Γ1 b (.sh d2) Γ2) (hm : behindInMarks op b = false := by first | exact nomark _ | rfl) : TX X Γ (.Compare a [op] [b] pos) k Γ2 := fun F σ H S Q R q => by
  obtain ⟨rr, hr, hq⟩ := ho
  refine pt_wt (pt_cmpR hr we_pe we_pe hm) (h1 F σ H S _ R fun x H1 S1 R1 s1 r1 => h2 F σ H1 S1 _ R1 fun y H2 S2 R2 s2 r2 => hq Γ2 F σ H2 S2 x y _ R2 (Rep.mono s2 _ _ r1) r2 fun v H3 S3 R3 s3 ok => ⟨k, ok, q H3 S3 R3 ((s1.trans s2).trans s3)⟩)
/-- a chain whose first link fails; holds -/
theorem e_chainF {op op' : CmpOp} {r' : R2} (ho' : OpR X (compareOp op') r') (ho : OpS X (compareOp op) d1 d2 (.sh (.bl false))) (h1 : EX X Γ a (.sh d1) Γ1) (h2 : EX X Γ1 b (.sh d2) Γ2) (hm : lastMarks [op, op'] [b, c] = false := by rfl) : EX X Γ (.Compare a [op, op'] [b, c] pos) (.sh (.bl false)) Γ2 := fun F σ H S Q R q => by
  obtain ⟨rr, hr, hq⟩ := ho
  refine pe_we (pe_chain hr ho' we_pe we_pe we_pe hm) (h1 F σ H S _ R fun x H1 S1 R1 s1 r1 => h2 F σ H1 S1 _ R1 fun y H2 S2 R2 s2 r2 => hq Γ2 F σ H2 S2 x y _ R2 (Rep.mono s2 _ _ r1) r2 fun v H3 S3 R3 s3 ok => ⟨false, ok, iteF (q _ H3 S3 R3 ((s1.trans s2).trans s3) rfl)⟩)
theorem e_chainT {op op' : CmpOp} {d3 : D} (ho : OpS X (compareOp op) d1 d2 (.sh (.bl true))) (ho' : OpS X (compareOp op') d2 d3 r) (h1 : EX X Γ a (.sh d1) Γ1) (h2 : EX X Γ1 b (.sh d2) Γ2) (h3 : EX X Γ2 c (.sh d3) Γ3) (hm : lastMarks [op, op'] [b, c] = false := by rfl) : EX X Γ (.Compare a [op, op'] [b, c] pos) r Γ3 := fun F σ H S Q R q => by
  obtain ⟨rr, hr, hq⟩ := ho
  obtain ⟨rr', hr', hq'⟩ := ho'
  refine pe_we (pe_chain hr hr' we_pe we_pe we_pe hm) (h1 F σ H S _ R fun x H1 S1 R1 s1 r1 => h2 F σ H1 S1 _ R1 fun y H2 S2 R2 s2 r2 => hq Γ2 F σ H2 S2 x y _ R2 (Rep.mono s2 _ _ r1) r2 fun v H3 S3 R3 s3 ok => ⟨true, ok, iteT ?_⟩)
  exact h3 F σ H3 S3 _ R3 fun z H4 S4 R4 s4 r4 => hq' Γ3 F σ H4 S4 y z Q R4 (Rep.mono (s3.trans s4) _ _ r2) r4 fun v H5 S5 R5 s5 ok => q v H5 S5 R5 ((((s1.trans s2).trans s3).trans s4).trans s5) ok
end
end PL

set_option Elab.async false
set_option linter.all false
set_option maxRecDepth 100000
set_option maxHeartbeats 1000000
namespace PL
open PySem PySem.Spec PyProof.Rows L2
section
variable {X : Cx} {Γ Γ1 Γ2 Γ3 : Gm} {e a b c : Ex} {pos : Pos} {d d1 d2 : D} {r : Rs} {rest es : List Ex} {k k' : Bool}
/-! ### tests, and, or, not -/
theorem t_val (h : EX X Γ e (.sh (.bl k)) Γ1) (he : ∀ whole, isTrue e X.env whole = (do let v ← whole; standAt e.pos; holding [v] (truthy v)) := by intro _; rfl) : TX X Γ e k Γ1 := fun F σ H S Q R q =>
  pt_wt (pt_val we_pe he) (h F σ H S _ R fun v H' S' R' s ok => ⟨k, ok, q H' S' R' s⟩)
/-- truth of a list, a text, a number -/
def TruD : D → Bool → Prop
  | .non, k => k = false
  | .bl b, k => k = b
  | .int i, k => k = (i != 0)
  | .str x, k => x.length ≤ sizeLine ∧ k = ((x.length : Int) != 0)
  | .tup ds, k => k = !ds.isEmpty
  | .lst ds, k => k = !ds.isEmpty
  | _, _ => False
theorem isE {K : PySem.W.Frag} {S : Hp} {ds : List D} {vs : List V} (h : Reps K S ds vs) : (!ds.isEmpty) = !vs.isEmpty := by
  have e := h.length
  cases ds <;> cases vs <;> first | rfl | cases e
theorem TruD.v {K : PySem.W.Frag} {S H : Hp} {d : D} {v : V} {k : Bool} (h : TruD d k) (r : Rep K S d v) (s : Same S H) : TruV K v H k := by
  cases d with
  | non => rw [show v = .non from r]; exact h
  | bl b => rw [show v = .bl b from r]; exact h
  | int b => rw [show v = .int b from r]; exact h
  | str b => rw [show v = .str b from r]; exact h
  | tup ds => obtain ⟨p, vs, rfl, h1, h2⟩ := r; exact .inr (.inl ⟨vs, same_sqt s h1, by rw [show k = _ from h, isE h2]⟩)
  | lst ds => obtain ⟨p, vs, rfl, h1, h2⟩ := r; exact .inl ⟨vs, .inl (.inl (s _ _ h1)), by rw [show k = _ from h, isE h2]⟩
  | _ => exact h.elim
theorem t_tru (h : EX X Γ e (.sh d) Γ1) (ht : TruD d k) (he : ∀ whole, isTrue e X.env whole = (do let v ← whole; standAt e.pos; holding [v] (truthy v)) := by intro _; rfl) : TX X Γ e k Γ1 := fun F σ H S Q R q =>
  pt_wt (pt_truth we_pe he) (h F σ H S _ R fun v H' S' R' s ok => ⟨k, ht.v ok R'.sh, q H' S' R' s⟩)
theorem t_not (h : TX X Γ a k Γ1) : TX X Γ (.UnaryOp .Not a pos) (!k) Γ1 := fun F σ H S Q R q => pt_wt (pt_not wt_pt) (h F σ H S _ R q)
theorem t_w (h : WX X Γ e k Γ1) : TX X Γ e k Γ1 := fun F σ H S Q R q => pt_wt (ww_pw.pt) (h F σ H S _ R q)
theorem w_and1 (h : TX X Γ a k Γ1) : WX X Γ (.BoolOp .And [a] pos) k Γ1 := fun F σ H S Q R q => pw_ww (pw_and1 wt_pt) (h F σ H S _ R q)
theorem w_or1 (h : TX X Γ a k Γ1) : WX X Γ (.BoolOp .Or [a] pos) k Γ1 := fun F σ H S Q R q => pw_ww (pw_or1 wt_pt) (h F σ H S _ R q)
theorem w_andT (h : TX X Γ a true Γ1) (h2 : WX X Γ1 (.BoolOp .And (b :: rest) pos) k Γ2) : WX X Γ (.BoolOp .And (a :: b :: rest) pos) k Γ2 := fun F σ H S Q R q =>
  pw_ww (pw_and wt_pt ww_pw) (h F σ H S _ R fun H1 S1 R1 s1 => iteT (h2 F σ H1 S1 _ R1 fun H2 S2 R2 s2 => q H2 S2 R2 (s1.trans s2)))
theorem w_andF (h : TX X Γ a false Γ1) : WX X Γ (.BoolOp .And (a :: b :: rest) pos) false Γ1 := fun F σ H S Q R q =>
  pw_ww (pw_and wt_pt ww_pw) (h F σ H S _ R fun H1 S1 R1 s1 => iteF (q H1 S1 R1 s1))
theorem w_orF (h : TX X Γ a false Γ1) (h2 : WX X Γ1 (.BoolOp .Or (b :: rest) pos) k Γ2) : WX X Γ (.BoolOp .Or (a :: b :: rest) pos) k Γ2 := fun F σ H S Q R q =>
  pw_ww (pw_or wt_pt ww_pw) (h F σ H S _ R fun H1 S1 R1 s1 => iteF (h2 F σ H1 S1 _ R1 fun H2 S2 R2 s2 => q H2 S2 R2 (s1.trans s2)))
theorem w_orT (h : TX X Γ a true Γ1) : WX X Γ (.BoolOp .Or (a :: b :: rest) pos) true Γ1 := fun F σ H S Q R q =>
  pw_ww (pw_or wt_pt ww_pw) (h F σ H S _ R fun H1 S1 R1 s1 => iteT (q H1 S1 R1 s1))
/-- both ways, no effect -/
theorem w_and (h : TX X Γ a k Γ) (h2 : k = true → WX X Γ (.BoolOp .And (b :: rest) pos) k' Γ) : WX X Γ (.BoolOp .And (a :: b :: rest) pos) (k && k') Γ := by
  cases k with
  | true => exact w_andT h (h2 rfl)
  | false => exact w_andF h
theorem w_or (h : TX X Γ a k Γ) (h2 : k = false → WX X Γ (.BoolOp .Or (b :: rest) pos) k' Γ) : WX X Γ (.BoolOp .Or (a :: b :: rest) pos) (k || k') Γ := by
  cases k with
  | true => exact w_orT h
  | false => exact w_orF h (h2 rfl)
theorem e_not (h : EX X Γ a (.sh (.bl k)) Γ1) : EX X Γ (.UnaryOp .Not a pos) (.sh (.bl (!k))) Γ1 := fun F σ H S Q R q =>
  pe_we (pe_not we_pe) (h F σ H S _ R fun v H' S' R' s ok => ⟨k, ok, q _ H' S' R' s rfl⟩)
theorem e_one {op : BoolOp} (h : EX X Γ a r Γ1) : EX X Γ (.BoolOp op [a] pos) r Γ1 := fun F σ H S Q R q => pe_we (pe_one we_pe) (h F σ H S _ R q)
theorem e_andT (h : EX X Γ a (.sh (.bl true)) Γ1) (h2 : EX X Γ1 (.BoolOp .And (b :: rest) pos) r Γ2) : EX X Γ (.BoolOp .And (a :: b :: rest) pos) r Γ2 := fun F σ H S Q R q =>
  pe_we (pe_and we_pe we_pe) (h F σ H S _ R fun v H1 S1 R1 s1 ok => ⟨true, ok, iteT (h2 F σ H1 S1 _ R1 fun v H2 S2 R2 s2 ok => q v H2 S2 R2 (s1.trans s2) ok)⟩)
theorem e_andF (h : EX X Γ a (.sh (.bl false)) Γ1) : EX X Γ (.BoolOp .And (a :: b :: rest) pos) (.sh (.bl false)) Γ1 := fun F σ H S Q R q =>
  pe_we (pe_and we_pe we_pe) (h F σ H S _ R fun v H1 S1 R1 s1 ok => ⟨false, ok, iteF (q _ H1 S1 R1 s1 rfl)⟩)
theorem e_orF (h : EX X Γ a (.sh (.bl false)) Γ1) (h2 : EX X Γ1 (.BoolOp .Or (b :: rest) pos) r Γ2) : EX X Γ (.BoolOp .Or (a :: b :: rest) pos) r Γ2 := fun F σ H S Q R q =>
  pe_we (pe_or we_pe we_pe) (h F σ H S _ R fun v H1 S1 R1 s1 ok => ⟨false, ok, iteF (h2 F σ H1 S1 _ R1 fun v H2 S2 R2 s2 ok => q v H2 S2 R2 (s1.trans s2) ok)⟩)
theorem e_orT (h : EX X Γ a (.sh (.bl true)) Γ1) : EX X Γ (.BoolOp .Or (a :: b :: rest) pos) (.sh (.bl true)) Γ1 := fun F σ H S Q R q =>
  pe_we (pe_or we_pe we_pe) (h F σ H S _ R fun v H1 S1 R1 s1 ok => ⟨true, ok, iteT (q _ H1 S1 R1 s1 rfl)⟩)
theorem e_and (h : EX X Γ a (.sh (.bl k)) Γ) (h2 : k = true → EX X Γ (.BoolOp .And (b :: rest) pos) (.sh (.bl k')) Γ) : EX X Γ (.BoolOp .And (a :: b :: rest) pos) (.sh (.bl (k && k'))) Γ := by
  cases k with
  | true => exact e_andT h (h2 rfl)
  | false => exact e_andF h
theorem e_or (h : EX X Γ a (.sh (.bl k)) Γ) (h2 : k = false → EX X Γ (.BoolOp .Or (b :: rest) pos) (.sh (.bl k')) Γ) : EX X Γ (.BoolOp .Or (a :: b :: rest) pos) (.sh (.bl (k || k'))) Γ := by
  cases k with
  | true => exact e_orT h
  | false => exact e_orF h (h2 rfl)
theorem e_ifT (h : TX X Γ c true Γ1) (h2 : EX X Γ1 a r Γ2) : EX X Γ (.IfExp c a b pos) r Γ2 := fun F σ H S Q R q =>
  pe_we (pe_ifExp wt_pt we_pe we_pe) (h F σ H S _ R fun H1 S1 R1 s1 => iteT (h2 F σ H1 S1 _ R1 fun v H2 S2 R2 s2 ok => q v H2 S2 R2 (s1.trans s2) ok))
theorem e_ifF (h : TX X Γ c false Γ1) (h2 : EX X Γ1 b r Γ2) : EX X Γ (.IfExp c a b pos) r Γ2 := fun F σ H S Q R q =>
  pe_we (pe_ifExp wt_pt we_pe we_pe) (h F σ H S _ R fun H1 S1 R1 s1 => iteF (h2 F σ H1 S1 _ R1 fun v H2 S2 R2 s2 ok => q v H2 S2 R2 (s1.trans s2) ok))
/-! ### arguments, displays -/
theorem a_nil : AX X Γ [] [] Γ := fun F σ H S Q R q => pa_wa pa_nil (q [] H S R (.refl _) rfl)
theorem a_cons {ds : List D} (h : EX X Γ e (.sh d) Γ1) (h2 : AX X Γ1 es ds Γ2) (hs : starEach (e :: es) X.env = (false, eval e X.env) :: starEach es X.env := by rfl) : AX X Γ (e :: es) (d :: ds) Γ2 := fun F σ H S Q R q =>
  pa_wa (pa_cons we_pe wa_pa hs) (h F σ H S _ R fun v H1 S1 R1 s1 ok => h2 F σ H1 S1 _ R1 fun vs H2 S2 R2 s2 ok2 => q _ H2 S2 R2 (s1.trans s2) (.cons (Rep.mono s2 _ _ ok) ok2))
theorem e_tup {ds : List D} {x1} (h : AX X Γ es ds Γ1) (hl : ds.length ≤ sizeLine := by exact Nat.le_of_ble_eq_true rfl) : EX X Γ (.Tuple es x1 pos) (.sh (.tup ds)) Γ1 := fun F σ H S Q R q =>
  pe_we (pe_tup wa_pa) (h F σ H S _ R fun vs H1 S1 R1 s1 ok => ⟨by rw [← ok.length]; exact hl, fun p n => by
    obtain ⟨R2, s2⟩ := R1.laid (o := .tup vs) n
    exact q _ _ _ R2 (s1.trans s2) ⟨p, vs, rfl, .of upd_same, Reps.mono s2 _ _ ok⟩⟩)
theorem e_lst {ds : List D} (h : AX X Γ es ds Γ1) (hl : ds.length ≤ sizeLine := by exact Nat.le_of_ble_eq_true rfl) : EX X Γ (.List es pos) (.ow (.lst ds)) Γ1 := fun F σ H S Q R q =>
  pe_we (pe_lst wa_pa) (h F σ H S _ R fun vs H1 S1 R1 s1 ok => ⟨by rw [← ok.length]; exact hl, fun p n =>
    q _ _ _ (R1.grow (same_upd n)) s1 ⟨p, rfl, R1.sNone n, R1.h0None n, ⟨vs, upd_same, ok⟩, R1.ownNone n⟩⟩)
/-! ### built-in functions and types -/
def CallS (X : Cx) (f : Value) (ds : List D) (r : Rs) : Prop := ∃ rr, CallR X f rr ∧ ∀ Γ F σ H S vs (Q : VK), RS X.K F Γ σ H S → Reps X.K S ds vs →
  (∀ v H' S', RS X.K F Γ σ H' S' → Same S S' → RsOk X.K F Γ σ H' S' r v → Q v H') → rr vs H Q
theorem e_callB {id : String} {x : Str} {p : Pos} {ds : List D} (hc : CallS X (.builtin id) ds r) (hm : X.mg x = none) (hv : bootBuiltins x = some (.builtin id)) (ha : AX X Γ (e :: es) ds Γ1) (hg : Gl X x := by rfl) (hn : x ≠ "__name__" := by decide) (hdb : (x == ("__debug__" : Str)) = false := by decide)
    (he : starEach (e :: es) X.env = (false, eval e X.env) :: starEach es X.env := by rfl) (hpl : (backTo pos (starEach es X.env)).any (·.1) = false := by rfl) : EX X Γ (.Call (.Name x p) (e :: es) [] pos) r Γ1 := fun F σ H S Q R q => by
  obtain ⟨rr, hr, hq⟩ := hc
  exact pe_we (pe_callB hr hg hm hv wa_pa hn hdb he hpl) (ha F σ H S _ R fun vs H1 S1 R1 s1 ok => hq Γ1 F σ H1 S1 vs Q R1 ok fun v H2 S2 R2 s2 ok2 => q v H2 S2 R2 (s1.trans s2) ok2)
theorem e_callTy {T : String} {x : Str} {p : Pos} {ds : List D} (hc : CallS X (.type T) ds r) (hm : X.mg x = none) (hv : bootBuiltins x = some (.type T)) (ha : AX X Γ (e :: es) ds Γ1) (hg : Gl X x := by rfl) (hn : x ≠ "__name__" := by decide) (hdb : (x == ("__debug__" : Str)) = false := by decide)
    (he : starEach (e :: es) X.env = (false, eval e X.env) :: starEach es X.env := by rfl) (hpl : (backTo pos (starEach es X.env)).any (·.1) = false := by rfl) : EX X Γ (.Call (.Name x p) (e :: es) [] pos) r Γ1 := fun F σ H S Q R q => by
  obtain ⟨rr, hr, hq⟩ := hc
  exact pe_we (pe_callTy hr hg hm hv wa_pa hn hdb he hpl) (ha F σ H S _ R fun vs H1 S1 R1 s1 ok => hq Γ1 F σ H1 S1 vs Q R1 ok fun v H2 S2 R2 s2 ok2 => q v H2 S2 R2 (s1.trans s2) ok2)
/-! ### subscripts, slices -/
def IxS (X : Cx) (d1 d2 : D) (r : Rs) : Prop := ∃ rr, IxR X rr ∧ ∀ Γ F σ H S x y (Q : VK), RS X.K F Γ σ H S → Rep X.K S d1 x → Rep X.K S d2 y →
  (∀ v H' S', RS X.K F Γ σ H' S' → Same S S' → RsOk X.K F Γ σ H' S' r v → Q v H') → rr x y H Q
theorem e_ix (h1 : EX X Γ a (.sh d1) Γ1) (h2 : EX X Γ1 b (.sh d2) Γ2) (ho : IxS X d1 d2 r) (hs : PlainIx b := by exact fun _ _ => rfl) : EX X Γ (.Subscript a b pos) r Γ2 := fun F σ H S Q R q => by
  obtain ⟨rr, hr, hq⟩ := ho
  exact pe_we (pe_ix hr we_pe we_pe hs) (h1 F σ H S _ R fun x H1 S1 R1 s1 r1 => h2 F σ H1 S1 _ R1 fun y H2 S2 R2 s2 r2 => hq Γ2 F σ H2 S2 x y Q R2 (Rep.mono s2 _ _ r1) r2 fun v H3 S3 R3 s3 ok => q v H3 S3 R3 ((s1.trans s2).trans s3) ok)
def WP (X : Cx) (e : Option Ex) : TO := fun σ H Q => ∀ pins s, Inv X pins σ H s → wpAny (model X.prog X.w) X.A (evalPart e X.env) (fun u s' => ∃ o H', Inv X pins σ H' s' ∧ IsPart u o ∧ Q o H') X.xe s
theorem wp_po {e : Option Ex} : PO X e (WP X e) := ⟨fun pins s σ H Q I h => h pins s I⟩
theorem po_wp {e : Option Ex} {t : TO} {σ : L2.St} {H : Hp} {Q : Option Int → Hp → Prop} (h : PO X e t) (q : t σ H Q) : WP X e σ H Q := fun pins s I => h.run pins s σ H Q I q
def PX (X : Cx) (Γ : Gm) (e : Option Ex) (i : Option Int) (Γ' : Gm) : Prop := ∀ F σ H S (Q : Option Int → Hp → Prop), RS X.K F Γ σ H S →
  (∀ H' S', RS X.K F Γ' σ H' S' → Same S S' → Q i H') → WP X e σ H Q
theorem p_none : PX X Γ none none Γ := fun F σ H S Q R q => po_wp po_none (q H S R (.refl _))
theorem p_some {n : Int} (h : EX X Γ e (.sh (.int n)) Γ1) : PX X Γ (some e) (some n) Γ1 := fun F σ H S Q R q =>
  po_wp (po_some we_pe) (h F σ H S _ R fun v H' S' R' s ok => ⟨n, ok, q H' S' R' s⟩)
def SlS (X : Cx) (d : D) (lo hi : Option Int) (r : Rs) : Prop := ∃ rr, SlR X rr ∧ ∀ Γ F σ H S x (Q : VK), RS X.K F Γ σ H S → Rep X.K S d x →
  (∀ v H' S', RS X.K F Γ σ H' S' → Same S S' → RsOk X.K F Γ σ H' S' r v → Q v H') → rr x lo hi H Q
theorem e_slice {lo hi : Option Ex} {i j : Option Int} {p2 : Pos} (ho : SlS X d i j r) (h1 : EX X Γ a (.sh d) Γ1) (hl : PX X Γ1 lo i Γ2) (hh : PX X Γ2 hi j Γ3) : EX X Γ (.Subscript a (.Slice lo hi none p2) pos) r Γ3 := fun F σ H S Q R q => by
  obtain ⟨rr, hr, hq⟩ := ho
  exact pe_we (pe_slice hr we_pe wp_po wp_po) (h1 F σ H S _ R fun x H1 S1 R1 s1 r1 => hl F σ H1 S1 _ R1 fun H2 S2 R2 s2 => hh F σ H2 S2 _ R2 fun H3 S3 R3 s3 => hq Γ3 F σ H3 S3 x Q R3 (Rep.mono (s2.trans s3) _ _ r1) fun v H4 S4 R4 s4 ok => q v H4 S4 R4 (((s1.trans s2).trans s3).trans s4) ok)
/-! ### fields of shared objects -/
theorem zip_lookup {K : PySem.W.Frag} {S : Hp} {f : Str} : ∀ {ns : List Str} {ds : List D} {vs : List V}, Reps K S ds vs → (ns.zip ds).lookup f = some d → ∃ v, (ns.zip vs).lookup f = some v ∧ Rep K S d v
  | [], _, _, _, e => by cases e
  | n :: ns, [], _, _, e => by cases e
  | n :: ns, d' :: ds, _, ⟨v, r, rfl, h2, h3⟩, e => by
    rw [List.zip_cons_cons, List.lookup_cons] at e ⊢
    by_cases h : f == n
    · rw [h] at e ⊢
      cases e
      exact ⟨v, rfl, h2⟩
    · rw [Bool.eq_false_iff.mpr h] at e ⊢
      exact zip_lookup h3 e
theorem e_fld {C : Addr} {ns : List Str} {ds : List D} {f : Str} (hc : Cls X.K C) (hn : NoAttr X.K C f) (h : EX X Γ a (.sh (.obj C ns ds)) Γ1) (hl : (ns.zip ds).lookup f = some d) (hb : attributeBase a f X.env (eval a X.env) = eval a X.env := by rfl) : EX X Γ (.Attribute a f pos) (.sh d) Γ1 := fun F σ H S Q R q =>
  pe_we (pe_fld we_pe hb) (h F σ H S _ R fun v H' S' R' s ok => by
    obtain ⟨p, dx, vs, rfl, h1, h2, h3⟩ := ok
    obtain ⟨w, e1, e2⟩ := zip_lookup h3 hl
    exact ⟨p, C, dx, _, w, rfl, R'.sh _ _ h1, hc, hn, e1, q w H' S' R' s e2⟩)
/-! ### read-only: all that is owned is seen as shared -/
def Sl.ro : Sl → Sl
  | .ow o => .sh o.d
  | .pr _ o => .sh o.d
  | s => s
def ro (Γ : Gm) : Gm := Γ.map Sl.ro
theorem RS.ro {K : PySem.W.Frag} {F : Fr} {σ : L2.St} {H S : Hp} (R : RS K F Γ σ H S) : RS K ⟨H, H, fun _ => False⟩ (ro Γ) σ H H := by
  refine ⟨.refl _, .refl _, fun b o e _ z => ?_, fun b o _ e => e, fun b o e => ⟨o, e⟩, fun j s e => ?_, fun i j a n x y => ?_, by unfold PL.ro; rw [List.length_map]; exact R.len⟩
  · exact z
  · unfold PL.ro at e
    rw [List.getElem?_map] at e
    cases q : Γ[j]? with
    | none => rw [q] at e; cases e
    | some t =>
      rw [q] at e
      have e2 : t.ro = s := Option.some.inj e
      subst e2
      have w := R.sl j t q
      cases t with
      | un => trivial
      | sh d => obtain ⟨v, e1, e2⟩ := w; exact ⟨v, e1, Rep.mono R.sh _ _ e2⟩
      | ow o => obtain ⟨b, e1, _, _, e4⟩ := w; exact ⟨_, e1, ObR.rep (H := H) (fun _ z => z) (e4.mono R.sh fun _ z => z)⟩
      | pr p o => obtain ⟨e1, _, _, e4⟩ := w; exact ⟨_, e1, ObR.rep (H := H) (fun _ z => z) (e4.mono R.sh fun _ z => z)⟩
  · obtain ⟨hx, _⟩ := x
    unfold PL.ro at hx
    rw [List.getElem?_map] at hx
    cases q : Γ[i]? with
    | none => rw [q] at hx; rcases hx with ⟨_, z⟩ | ⟨_, _, z⟩ <;> cases z
    | some t =>
      rw [q] at hx
      cases t <;> rcases hx with ⟨_, z⟩ | ⟨_, _, z⟩ <;> cases z
theorem e_ro {Γ' : Gm} (h : EX X (ro Γ) e (.sh d) Γ') (hs : Scal d) : EX X Γ e (.sh d) Γ := fun F σ H S Q R q =>
  h _ σ H H Q R.ro fun v H' S' R' s ok => q v H' S (R.grow fun b o e => R'.kp b o (fun z => z) e) (.refl _) (Rep.scal hs ok)
theorem t_ro {Γ' : Gm} (h : TX X (ro Γ) e k Γ') : TX X Γ e k Γ := fun F σ H S Q R q =>
  h _ σ H H Q R.ro fun H' S' R' s => q H' S (R.grow fun b o e => R'.kp b o (fun z => z) e) (.refl _)
end
end PL

set_option Elab.async false
set_option linter.all false
set_option maxRecDepth 100000
set_option maxHeartbeats 1000000
namespace PL
open PySem PySem.Spec PyProof.Rows L2
section
variable {X : Cx} {Γ Γ1 Γ2 Γ3 : Gm} {e a b c : Ex} {pos : Pos} {d d1 d2 : D} {r : Rs} {es : List Ex} {k : Bool} {st : Stmt} {rest A B : List Stmt} {o : Out}
/-! ### storing into a slot -/
/-- what a slot holds behind x = (an expression that ends so) -/
def Rs.sl : Rs → Sl
  | .sh d => .sh d
  | .ow o => .ow o
  | .br _ => .un
def Free (Γ : Gm) (i : Nat) : Prop := ∀ p o, Γ[i]? ≠ some (.pr p o)
theorem RS.put {K : PySem.W.Frag} {F : Fr} {σ : L2.St} {H S : Hp} {i : Nat} {v : V} (R : RS K F Γ σ H S) (hi : i < Γ.length) (ok : RsOk K F Γ σ H S r v) (nb : ∀ j, r ≠ .br j) : RS K F (Γ.set i r.sl) (σ.set i (some v)) H S := by
  have hiσ : i < σ.length := by rw [← R.len]; exact hi
  have ow : ∀ j b, j ≠ i → OwnAt (Γ.set i r.sl) (σ.set i (some v)) j b → OwnAt Γ σ j b := fun j b hj ⟨h, q⟩ => by
    rw [List.getElem?_set_ne (Ne.symm hj)] at h
    rw [List.getElem?_set_ne (Ne.symm hj)] at q
    exact ⟨h, q⟩
  have own : ∀ b, OwnAt (Γ.set i r.sl) (σ.set i (some v)) i b → ¬ Own Γ σ b := fun b ⟨h, q⟩ => by
    rw [List.getElem?_set_self hi] at h
    rw [List.getElem?_set_self hiσ] at q
    cases r with
    | sh d => rcases h with ⟨_, z⟩ | ⟨_, _, z⟩ <;> cases z
    | br j => exact (nb j rfl).elim
    | ow o' =>
      obtain ⟨p, rfl, _, _, _, no⟩ := ok
      cases q
      exact no
  refine ⟨R.s0, R.sh, R.new, R.kp, R.th, fun j s e => ?_, fun j l b ne h1 h2 => ?_, by rw [List.length_set, List.length_set]; exact R.len⟩
  · by_cases hj : j = i
    · subst hj
      rw [List.getElem?_set_self hi] at e
      rw [List.getElem?_set_self hiσ]
      cases e
      cases r with
      | sh d => exact ⟨v, rfl, ok⟩
      | br j => trivial
      | ow o' =>
        obtain ⟨p, rfl, n1, n2, ob, _⟩ := ok
        exact ⟨p, rfl, n1, .inl n2, ob⟩
    · rw [List.getElem?_set_ne (Ne.symm hj)] at e
      rw [List.getElem?_set_ne (Ne.symm hj)]
      exact R.sl j s e
  · by_cases hj : j = i
    · subst hj
      exact own b h1 ⟨l, ow l b (Ne.symm ne) h2⟩
    · by_cases hl : l = i
      · subst hl
        exact own b h2 ⟨j, ow j b hj h1⟩
      · exact R.ne j l b ne (ow j b hj h1) (ow l b hl h2)
/-! ### blocks -/
theorem s_nil : SX X Γ [] (.nx Γ) := fun F σ H S D R q => pss_ws pss_nil (q σ H S R (.refl _))
theorem s_cons (h : S1 X Γ st (.nx Γ1)) (h2 : SX X Γ1 rest o) : SX X Γ (st :: rest) o := fun F σ H S D R q =>
  pss_ws (pss_cons w1_ps ws_pss) (h F σ H S _ R fun σ1 H1 S1 R1 s1 => h2 F σ1 H1 S1 D R1 (q.mono s1))
def Out.leaves : Out → Bool
  | .nx _ => false
  | _ => true
theorem OutOk.nx {K : PySem.W.Frag} {F : Fr} {S : Hp} {D : Ends} {n : L2.St → Hp → Prop} (h : OutOk K F S D o) (ho : o.leaves = true) : OutOk K F S { D with nx := n } o := by
  cases o with
  | nx Γ => cases ho
  | bk Γ => exact h
  | ct Γ => exact h
  | rt r Γ => exact h
theorem s_end (h : S1 X Γ st o) (ho : o.leaves = true := by rfl) : SX X Γ (st :: rest) o := fun F σ H S D R q =>
  pss_ws (pss_cons w1_ps ws_pss) (h F σ H S _ R (q.nx ho))
theorem s_one (h : S1 X Γ st o) : SX X Γ [st] o := fun F σ H S D R q => pss_ws (pss_one w1_ps) (h F σ H S _ R q)
theorem s1_ifT (h : TX X Γ c true Γ1) (h2 : SX X Γ1 A o) : S1 X Γ (.If c A B pos) o := fun F σ H S D R q =>
  ps_w1 (ps_if wt_pt ws_pss ws_pss) (h F σ H S _ R fun H1 S1 R1 s1 => iteT (h2 F σ H1 S1 D R1 (q.mono s1)))
theorem s1_ifF (h : TX X Γ c false Γ1) (h2 : SX X Γ1 B o) : S1 X Γ (.If c A B pos) o := fun F σ H S D R q =>
  ps_w1 (ps_if wt_pt ws_pss ws_pss) (h F σ H S _ R fun H1 S1 R1 s1 => iteF (h2 F σ H1 S1 D R1 (q.mono s1)))
theorem s_ifT (h : TX X Γ c true Γ1) (h2 : SX X Γ1 A (.nx Γ2)) (h3 : SX X Γ2 rest o) : SX X Γ (.If c A B pos :: rest) o := s_cons (s1_ifT h h2) h3
theorem s_ifTE (h : TX X Γ c true Γ1) (h2 : SX X Γ1 A o) (ho : o.leaves = true := by rfl) : SX X Γ (.If c A B pos :: rest) o := s_end (s1_ifT h h2) ho
theorem s_ifF (h : TX X Γ c false Γ1) (h2 : SX X Γ1 B (.nx Γ2)) (h3 : SX X Γ2 rest o) : SX X Γ (.If c A B pos :: rest) o := s_cons (s1_ifF h h2) h3
theorem s_ifFE (h : TX X Γ c false Γ1) (h2 : SX X Γ1 B o) (ho : o.leaves = true := by rfl) : SX X Γ (.If c A B pos :: rest) o := s_end (s1_ifF h h2) ho
theorem s_ifN (h : TX X Γ c false Γ1) (h3 : SX X Γ1 rest o) : SX X Γ (.If c A [] pos :: rest) o := s_cons (s1_ifF h s_nil) h3
theorem s1_pass : S1 X Γ (.Pass pos) (.nx Γ) := fun F σ H S D R q => ps_w1 ps_pass (q σ H S R (.refl _))
theorem s1_break : S1 X Γ (.Break pos) (.bk Γ) := fun F σ H S D R q => ps_w1 ps_break (q σ H S R (.refl _))
theorem s1_cont : S1 X Γ (.Continue pos) (.ct Γ) := fun F σ H S D R q => ps_w1 ps_continue (q σ H S R (.refl _))
theorem s1_expr (h : EX X Γ e r Γ1) (hs : swapsWith e none pos.line X.env = pure false := by rfl) : S1 X Γ (.Expr e pos) (.nx Γ1) := fun F σ H S D R q =>
  ps_w1 (ps_expr we_pe hs) (h F σ H S _ R fun v H1 S1 R1 s1 _ => q σ H1 S1 R1 s1)
theorem s1_ret (h : EX X Γ e r Γ1) : S1 X Γ (.Return (some e) pos) (.rt r Γ1) := fun F σ H S D R q =>
  ps_w1 (ps_ret we_pe) (h F σ H S _ R fun v H1 S1 R1 s1 ok => q v σ H1 S1 R1 s1 ok)
theorem s1_retN : S1 X Γ (.Return none pos) (.rt (.sh .non) Γ) := fun F σ H S D R q => ps_w1 ps_retN (q .non σ H S R (.refl _) rfl)
/-- the object that a local slot owns is handed out -/
theorem s1_retO (i : Nat) {x : Str} {ob : Ob} (h : Γ[i]? = some (.ow ob)) (hN : X.N[i]? = some x := by rfl) (hv : Vis X.env.scope x := by first | exact Or.inl rfl | exact Or.inr (Or.inl rfl) | exact Or.inr (Or.inr rfl)) (hd : (x == ("__debug__" : Str)) = false := by decide)
    (hcd : (x == ("__classdict__" : Str)) = false := by decide) {p : Pos} : S1 X Γ (.Return (some (.Name x p)) pos) (.rt (.sh ob.d) (Γ.set i (.sh ob.d))) := fun F σ H S D R q =>
  (show S1 X Γ (.Return (some (.Name x p)) pos) (.rt (.sh ob.d) (Γ.set i (.sh ob.d))) from s1_ret (e_cv (cv_frz h) (e_var i (by rw [List.getElem?_set_self (List.getElem?_eq_some_iff.mp h).1]) hN hv hd hcd))) F σ H S D R q
theorem s1_set (i : Nat) {x : Str} {pos' : Pos} (g : X.N.Nodup) (h : EX X Γ e r Γ1) (hl : i < Γ1.length := by exact Nat.le_of_ble_eq_true rfl) (nb : ∀ j, r ≠ .br j := by intro _ z; cases z) (hi : X.N[i]? = some x := by rfl) (hx : Loc X.env.scope x := by first | exact Or.inl rfl | exact Or.inr rfl)
    (hs : swapsWith e (some (.Name x pos')) pos.line X.env = pure false := by rfl) (hf : X.fn x = true ∨ X.env.scope.names.lookup x = some .local := by first | exact .inl rfl | exact .inr rfl | assumption) : S1 X Γ (.Assign [.Name x pos'] e pos) (.nx (Γ1.set i r.sl)) := fun F σ H S D R q =>
  ps_w1 (ps_set g hi hx we_pe hs hf) (h F σ H S _ R fun v H1 S1 R1 s1 ok => q _ H1 S1 (R1.put hl ok nb) s1)
/-- a target takes shared data -/
def WG (X : Cx) (tg : Ex) : TG := fun v σ H Q => ∀ pins s u, Inv X pins σ H s → RelV v u → wpAny (model X.prog X.w) X.A (assign tg X.env u) (fun _ s' => ∃ σ' H', Inv X pins σ' H' s' ∧ Q σ' H') X.xe s
theorem wg_pg {tg : Ex} : PG X tg (WG X tg) := ⟨fun pins s σ H v u Q I r h => h pins s u I r⟩
theorem pg_wg {tg : Ex} {g : TG} {v : V} {σ : L2.St} {H : Hp} {Q : L2.St → Hp → Prop} (h : PG X tg g) (q : g v σ H Q) : WG X tg v σ H Q := fun pins s u I r => h.run pins s σ H v u Q I r q
def WGs (X : Cx) (tgs : List Ex) : TGs := fun vs σ H Q => ∀ pins s us, Inv X pins σ H s → Vals vs us → wpAny (model X.prog X.w) X.A (assignInOrder ((assignEach tgs X.env).map (·.2)) us) (fun _ s' => ∃ σ' H', Inv X pins σ' H' s' ∧ Q σ' H') X.xe s
theorem wgs_pgs {tgs : List Ex} : PGs X tgs (WGs X tgs) := ⟨fun pins s σ H vs us Q I r h => h pins s us I r⟩
theorem pgs_wgs {tgs : List Ex} {g : TGs} {vs : List V} {σ : L2.St} {H : Hp} {Q : L2.St → Hp → Prop} (h : PGs X tgs g) (q : g vs σ H Q) : WGs X tgs vs σ H Q := fun pins s us I r => h.run pins s σ H vs us Q I r q
def GX (X : Cx) (tg : Ex) (Γ : Gm) (d : D) (Γ' : Gm) : Prop := ∀ F σ H S v (Q : L2.St → Hp → Prop), RS X.K F Γ σ H S → Rep X.K S d v → (∀ σ' H' S', RS X.K F Γ' σ' H' S' → Same S S' → Q σ' H') → WG X tg v σ H Q
theorem g_name (i : Nat) {x : Str} (g : X.N.Nodup) (hl : i < Γ.length := by exact Nat.le_of_ble_eq_true rfl) (hi : X.N[i]? = some x := by rfl) (hx : Loc X.env.scope x := by first | exact Or.inl rfl | exact Or.inr rfl)
    (hf : X.fn x = true ∨ X.env.scope.names.lookup x = some .local := by first | exact .inl rfl | exact .inr rfl | assumption) : GX X (.Name x pos) Γ d (Γ.set i (.sh d)) :=
  fun F σ H S v Q R ok q => pg_wg (pg_name g hi hx hf) (q _ H S (R.put (r := .sh d) hl ok (fun _ z => by cases z)) (.refl _))
def GsX (X : Cx) (tgs : List Ex) (Γ : Gm) (ds : List D) (Γ' : Gm) : Prop := ∀ F σ H S vs (Q : L2.St → Hp → Prop), RS X.K F Γ σ H S → Reps X.K S ds vs → (∀ σ' H' S', RS X.K F Γ' σ' H' S' → Same S S' → Q σ' H') → WGs X tgs vs σ H Q
theorem gs_nil : GsX X [] Γ [] Γ := fun F σ H S vs Q R ok q => pgs_wgs pgs_nil ⟨ok, q σ H S R (.refl _)⟩
end
end PL

set_option Elab.async false
set_option linter.all false
set_option maxRecDepth 100000
set_option maxHeartbeats 1000000
namespace PL
open PySem PySem.Spec PyProof.Rows L2
section
variable {X : Cx} {Γ Γ1 Γ2 Γ3 : Gm} {e a b c : Ex} {pos : Pos} {d d1 d2 : D} {r : Rs} {es : List Ex} {k : Bool} {st : Stmt} {rest A B : List Stmt} {o : Out}
theorem gs_cons {tg : Ex} {tgs : List Ex} {ds : List D} (h : GX X tg Γ d Γ1) (h2 : GsX X tgs Γ1 ds Γ2) (hs : (assignEach (tg :: tgs) X.env).map (·.2) = assign tg X.env :: (assignEach tgs X.env).map (·.2) := by rfl) : GsX X (tg :: tgs) Γ (d :: ds) Γ2 := fun F σ H S vs Q R ok k => by
  obtain ⟨v, r, rfl, o1, o2⟩ := ok
  exact pgs_wgs (pgs_cons wg_pg wgs_pgs hs) ⟨v, r, rfl, h F σ H S v _ R o1 fun σ1 H1 S1 R1 s1 => h2 F σ1 H1 S1 r Q R1 (Reps.mono s1 _ _ o2) fun σ2 H2 S2 R2 s2 => k σ2 H2 S2 R2 (s1.trans s2)⟩
theorem g_tup {tgs : List Ex} {ds : List D} {kk : Nat} (hc : X.calm = true) (h : GsX X tgs Γ ds Γ1) (hn : (assignEach tgs X.env).length = ds.length := by rfl) (hst : (assignEach tgs X.env).findIdx? (·.1) = none := by rfl) : GX X (.Tuple tgs kk pos) Γ (.tup ds) Γ1 := fun F σ H S v Q R ok k => by
  obtain ⟨p, vs, rfl, h1, h2⟩ := ok
  exact pg_wg (pg_tup hc wgs_pgs hn hst) ⟨p, vs, rfl, same_sqt R.sh h1, h2.length.symm, h F σ H S vs Q R h2 k⟩
theorem s1_asg {tg : Ex} (hg : GX X tg Γ1 d Γ2) (h : EX X Γ e (.sh d) Γ1) (hs : swapsWithSole [tg] e pos.line X.env = pure false := by rfl) (hw : swappedStores [tg] e X.env = pure none := by rfl)
    (h1 : (assignEach [tg] X.env).map (·.2) = [assign tg X.env] := by rfl) : S1 X Γ (.Assign [tg] e pos) (.nx Γ2) := fun F σ H S D R q =>
  ps_w1 (ps_asg we_pe wg_pg hs hw h1) (h F σ H S _ R fun v H1 S1 R1 s1 ok => hg F σ H1 S1 v _ R1 ok fun σ2 H2 S2 R2 s2 => q σ2 H2 S2 R2 (s1.trans s2))
/-- a, b = x, y: two local names -/
theorem s1_par (i j : Nat) {x y : Str} {px py pt : Pos} {kt k2 pt2} (g : Gd k' X) (h : AX X Γ [a, b] [d1, d2] Γ1) (hl : i < Γ1.length := by exact Nat.le_of_ble_eq_true rfl) (hl2 : j < Γ1.length := by exact Nat.le_of_ble_eq_true rfl) (hij : i ≠ j := by decide) (hi : X.N[i]? = some x := by rfl) (hj : X.N[j]? = some y := by rfl)
    (hx : X.env.scope.names.lookup x = some .local := by rfl) (hy : X.env.scope.names.lookup y = some .local := by rfl)
    (hw : swappedStores [.Tuple [.Name x px, .Name y py] kt pt] (.Tuple [a, b] k2 pt2) X.env = pure (some [x, y]) := by rfl) (hs : swapsWithSole [.Tuple [.Name x px, .Name y py] kt pt] (.Tuple [a, b] k2 pt2) pos.line X.env = pure false := by rfl) :
    S1 X Γ (.Assign [.Tuple [.Name x px, .Name y py] kt pt] (.Tuple [a, b] k2 pt2) pos) (.nx ((Γ1.set i (.sh d1)).set j (.sh d2))) := fun F σ H S D R q =>
  ps_w1 (ps_par g.calm g.nd hi hj hij hx hy wa_pa hw hs) (h F σ H S _ R fun vs H1 S1 R1 s1 ok => by
    obtain ⟨v, r, rfl, o1, w, r2, rfl, o2, o3⟩ := ok
    obtain rfl : r2 = [] := o3
    have R2 := R1.put (r := .sh d1) hl o1 (fun _ z => by cases z)
    have R3 := R2.put (r := .sh d2) (i := j) (by rw [List.length_set]; exact hl2) o2 (fun _ z => by cases z)
    exact ⟨v, w, rfl, q _ H1 S1 R3 s1⟩)
/-! ### objects of one's own are changed -/
def Sl.re : Sl → Ob → Sl
  | .pr p _, o => .pr p o
  | _, o => .ow o
theorem RS.chg {K : PySem.W.Frag} {F : Fr} {σ : L2.St} {H S : Hp} {i : Nat} {p : Addr} {s : Sl} {x : HO} {o' : Ob} (R : RS K F Γ σ H S) (own : OwnAt Γ σ i p) (hs : Γ[i]? = some s) (ob : ObR K S (upd H p x) p o') : RS K F (Γ.set i (s.re o')) σ (upd H p x) S := by
  obtain ⟨n, n0, o, ob0⟩ := R.own own
  have hi : i < Γ.length := (List.getElem?_eq_some_iff.mp hs).1
  have ow : ∀ j b, OwnAt (Γ.set i (s.re o')) σ j b → OwnAt Γ σ j b := fun j b ⟨h, q⟩ => by
    by_cases hj : j = i
    · subst hj
      exact ⟨own.1, q⟩
    · rw [List.getElem?_set_ne (Ne.symm hj)] at h
      exact ⟨h, q⟩
  refine ⟨R.s0, fun b u e => ?_, R.new, fun b u nb e => ?_, fun b u e => ?_, fun j t e => ?_, fun j l b ne h1 h2 => R.ne j l b ne (ow j b h1) (ow l b h2), by rw [List.length_set]; exact R.len⟩
  · rw [upd_ne (fun hb : b = p => by rw [hb, n] at e; cases e)]
    exact R.sh b u e
  · rw [upd_ne (fun hb : b = p => by
      rw [hb] at e nb
      rcases n0 with z | z
      · rw [e] at z; cases z
      · exact nb z)]
    exact R.kp b u nb e
  · by_cases hb : b = p
    · subst hb; exact ⟨x, upd_same⟩
    · rw [upd_ne hb]; exact R.th b u e
  · by_cases hj : j = i
    · subst hj
      rw [List.getElem?_set_self hi] at e
      cases e
      obtain ⟨hk, q⟩ := own
      rw [hs] at hk
      rcases hk with ⟨o2, z⟩ | ⟨p2, o2, z⟩
      · cases z; exact ⟨p, q, n, n0, ob⟩
      · cases z
        have w := R.sl j _ hs
        obtain ⟨w1, _⟩ := w
        rw [q] at w1; cases w1
        exact ⟨q, n, n0, ob⟩
    · rw [List.getElem?_set_ne (Ne.symm hj)] at e
      have w := R.sl j t e
      have kept : ∀ b, OwnAt Γ σ j b → ∀ u, H b = some u → (upd H p x) b = some u := fun b ob u z => by
        rw [upd_ne (fun hb : b = p => R.ne j i b hj ob (by rw [hb]; exact own))]
        exact z
      cases t with
      | un => trivial
      | sh d => exact w
      | ow o2 => obtain ⟨b, e1, e2, e3, e4⟩ := w; exact ⟨b, e1, e2, e3, e4.mono (.refl _) (kept b ⟨.inl ⟨o2, e⟩, e1⟩)⟩
      | pr p2 o2 => obtain ⟨e1, e2, e3, e4⟩ := w; exact ⟨e1, e2, e3, e4.mono (.refl _) (kept p2 ⟨.inr ⟨p2, o2, e⟩, e1⟩)⟩
/-- slot i owns o -/
def Has (Γ : Gm) (i : Nat) (s : Sl) (o : Ob) : Prop := Γ[i]? = some s ∧ (s = .ow o ∨ ∃ p, s = .pr p o)
theorem RS.has {K : PySem.W.Frag} {F : Fr} {σ : L2.St} {H S : Hp} {i : Nat} {s : Sl} {o : Ob} (R : RS K F Γ σ H S) (h : Has Γ i s o) : ∃ p, OwnAt Γ σ i p ∧ ObR K S H p o := by
  obtain ⟨e, rfl | ⟨p, rfl⟩⟩ := h
  · obtain ⟨p, q, _, _, ob⟩ := R.sl i _ e
    exact ⟨p, ⟨.inl ⟨o, e⟩, q⟩, ob⟩
  · obtain ⟨q, _, _, ob⟩ := R.sl i _ e
    exact ⟨p, ⟨.inr ⟨p, o, e⟩, q⟩, ob⟩
theorem OwnAt.eq {σ : L2.St} {i : Nat} {p q : Addr} (h : OwnAt Γ σ i p) (h2 : OwnAt Γ1 σ i q) : p = q := by
  have e := h.2.symm.trans h2.2
  cases e
  rfl
theorem has_ow {i : Nat} {o : Ob} (h : Γ[i]? = some (.ow o) := by rfl) : Has Γ i (.ow o) o := ⟨h, .inl rfl⟩
theorem has_pr {i : Nat} {o : Ob} {p : Addr} (h : Γ[i]? = some (.pr p o) := by rfl) : Has Γ i (.pr p o) o := ⟨h, .inr ⟨p, rfl⟩⟩
theorem e_append {i : Nat} {s : Sl} {x : Str} {ds : List D} {apos p : Pos} (h : EX X Γ e (.sh d) Γ1) (h0 : ∃ s0 o0, Has Γ i s0 o0 ∧ ∃ es, o0 = .lst es) (h1 : Has Γ1 i s (.lst ds)) (hz : ds.length < sizeLine) (hN : X.N[i]? = some x := by rfl) (hv : Vis X.env.scope x := by first | exact Or.inl rfl | exact Or.inr (Or.inl rfl) | exact Or.inr (Or.inr rfl)) (hd : (x == ("__debug__" : Str)) = false := by decide)
    (hcd : (x == ("__classdict__" : Str)) = false := by decide) (hbase : attributeBase (.Name x p) "append" X.env (eval (.Name x p) X.env) = eval (.Name x p) X.env := by rfl)
    (hfew : ((backTo pos (starEach [e] X.env)).all (fun x => !x.1) && (backToKw pos (keywordEach [] X.env)).all (fun x => x.1.isSome)
      && decide ([e].length + ([] : List Keyword).length + (if ([] : List Keyword).isEmpty then 0 else 1) < 30)) = true := by rfl)
    (hline : (apos.endLine == pos.line) = true := by rfl) (hs : starEach [e] X.env = (false, eval e X.env) :: starEach [] X.env := by rfl) (hplain : (backTo pos (starEach [] X.env)).any (·.1) = false := by rfl) :
    EX X Γ (.Call (.Attribute (.Name x p) "append" apos) [e] [] pos) (.sh .non) (Γ1.set i (s.re (.lst (ds ++ [d])))) := fun F σ H S Q R q => by
  obtain ⟨s0, o0, hh, es0, rfl⟩ := h0
  obtain ⟨l, own0, ob0⟩ := R.has hh
  obtain ⟨vs0, hl0, _⟩ := ob0
  refine pe_we (pe_bm PySem.F.plainAttrs_list PySem.F.slot_list_append PySem.F.type_list_append mt_append (pe_var hN hv hd hcd) (pa_cons we_pe pa_nil hs) hbase hfew hline hs hplain) ⟨_, own0.2, .inl ⟨rfl, _, .of hl0⟩, ?_⟩
  refine h F σ H S _ R fun v H1 S1 R1 s1 ok => ?_
  obtain ⟨l', own1, vs, hl, rp⟩ := R1.has h1
  obtain rfl := own0.eq own1
  refine ⟨l, vs, v, rfl, rfl, hl, by rw [← rp.length]; exact hz, q _ _ S1 (R1.chg own1 h1.1 ⟨_, upd_same, rp.append (.one ok)⟩) s1 rfl⟩
theorem e_extend {i : Nat} {s : Sl} {x : Str} {ds fs : List D} {apos p : Pos} (h : EX X Γ e (.sh (.lst fs)) Γ1) (h0 : ∃ s0 o0, Has Γ i s0 o0 ∧ ∃ es, o0 = .lst es) (h1 : Has Γ1 i s (.lst ds)) (hz : ds.length + fs.length ≤ sizeLine) (hN : X.N[i]? = some x := by rfl) (hv : Vis X.env.scope x := by first | exact Or.inl rfl | exact Or.inr (Or.inl rfl) | exact Or.inr (Or.inr rfl)) (hd : (x == ("__debug__" : Str)) = false := by decide)
    (hcd : (x == ("__classdict__" : Str)) = false := by decide) (hbase : attributeBase (.Name x p) "extend" X.env (eval (.Name x p) X.env) = eval (.Name x p) X.env := by rfl)
    (hfew : ((backTo pos (starEach [e] X.env)).all (fun x => !x.1) && (backToKw pos (keywordEach [] X.env)).all (fun x => x.1.isSome)
      && decide ([e].length + ([] : List Keyword).length + (if ([] : List Keyword).isEmpty then 0 else 1) < 30)) = true := by rfl)
    (hline : (apos.endLine == pos.line) = true := by rfl) (hs : starEach [e] X.env = (false, eval e X.env) :: starEach [] X.env := by rfl) (hplain : (backTo pos (starEach [] X.env)).any (·.1) = false := by rfl) :
    EX X Γ (.Call (.Attribute (.Name x p) "extend" apos) [e] [] pos) (.sh .non) (Γ1.set i (s.re (.lst (ds ++ fs)))) := fun F σ H S Q R q => by
  obtain ⟨s0, o0, hh, es0, rfl⟩ := h0
  obtain ⟨l, own0, ob0⟩ := R.has hh
  obtain ⟨vs0, hl0, _⟩ := ob0
  refine pe_we (pe_bm PySem.F.plainAttrs_list PySem.F.slot_list_extend PySem.F.type_list_extend mt_extend (pe_var hN hv hd hcd) (pa_cons we_pe pa_nil hs) hbase hfew hline hs hplain) ⟨_, own0.2, .inl ⟨rfl, _, .of hl0⟩, ?_⟩
  refine h F σ H S _ R fun v H1 S1 R1 s1 ok => ?_
  obtain ⟨l', own1, vs, hl, rp⟩ := R1.has h1
  obtain rfl := own0.eq own1
  obtain ⟨b, zs, rfl, hb, rz⟩ := ok
  refine ⟨l, b, vs, zs, rfl, rfl, hl, R1.sh _ _ hb, by rw [← rp.length, ← rz.length]; exact hz, q _ _ S1 (R1.chg own1 h1.1 ⟨_, upd_same, rp.append rz⟩) s1 rfl⟩
/-- o[i] = .. : o the list that slot n owns -/
theorem g_setix {n : Nat} {s : Sl} {x : Str} {ds : List D} {p : Pos} {ix : Int} {j : Nat} (h1 : Has Γ n s (.lst ds)) (hi : EX X Γ e (.sh (.int ix)) Γ) (hj : ixN ds.length ix = some j) (hN : X.N[n]? = some x := by rfl) (hv : Vis X.env.scope x := by first | exact Or.inl rfl | exact Or.inr (Or.inl rfl) | exact Or.inr (Or.inr rfl)) (hd : (x == ("__debug__" : Str)) = false := by decide)
    (hcd : (x == ("__classdict__" : Str)) = false := by decide)
    (ha : ∀ v, assign (.Subscript (.Name x p) e pos) X.env v = (do
      let ov ← holding [v] (eval (.Name x p) X.env)
      let iv ← holding [v, ov] (eval e X.env)
      standAt pos
      holding [v, ov, iv] (setItem ov iv v)
      release [v, ov, iv] []) := by intro _; rfl) : GX X (.Subscript (.Name x p) e pos) Γ d (Γ.set n (s.re (.lst (ds.set j d)))) := by
  intro F σ H S v Q R ok q
  obtain ⟨l, own, vs, hl, rp⟩ := R.has h1
  refine pg_wg (pg_sub (pe_var hN hv hd hcd) we_pe set_list ha) ⟨_, own.2, hi F σ H S _ R fun y H1 S1 R1 s1 ok1 => ?_⟩
  obtain ⟨l', own1, vs1, hl1, rp1⟩ := R1.has h1
  obtain rfl := own.eq own1
  refine ⟨l, vs1, ix, j, rfl, ok1, hl1, by rw [← rp1.length]; exact hj, q σ _ S1 (R1.chg own1 h1.1 ⟨_, upd_same, rp1.set (Rep.mono s1 _ _ ok)⟩) s1⟩
end
end PL

set_option Elab.async false
set_option linter.all false
set_option maxRecDepth 100000
set_option maxHeartbeats 1000000
namespace PL
open PySem PySem.Spec PyProof.Rows L2
/-! ### promises over data -/
structure Ret (K : PySem.W.Frag) (S H : Hp) (md : Addr → Prop) (r : Rs) (v : V) (H' S' : Hp) : Prop where
  ss : Same S S'
  sh : Same S' H'
  new : ∀ b o, H b = some o → S b = none → S' b = none
  kp : ∀ b o, ¬ md b → H b = some o → H' b = some o
  th : ∀ b o, H b = some o → ∃ o', H' b = some o'
  res : match r with
    | .sh d => Rep K S' d v
    | .ow o => ∃ a, v = .ref a ∧ H a = none ∧ S' a = none ∧ ObR K S' H' a o
    | .br _ => False
def sp0 (K : PySem.W.Frag) (P : List D → Rs → Prop) : Sp := fun vs H Q _ => ∃ S ds r, P ds r ∧ Same S H ∧ Reps K S ds vs ∧ ∀ v H' S', Ret K S H (fun _ => False) r v H' S' → Q v H'
/-- the first argument is an object that the def may change -/
def sp1 (K : PySem.W.Frag) (P : Ob → List D → Rs → Ob → Prop) : Sp := fun vs H Q _ => ∃ S o ds r o' p ws, P o ds r o' ∧ vs = .ref p :: ws ∧ Same S H ∧ S p = none ∧ ObR K S H p o ∧ Reps K S ds ws ∧
  ∀ v H' S', Ret K S H (fun b => b = p) r v H' S' → S' p = none → ObR K S' H' p o' → Q v H'
/-- the first two -/
def sp2 (K : PySem.W.Frag) (P : Ob → Ob → List D → Rs → Ob → Ob → Prop) : Sp := fun vs H Q _ => ∃ S o u ds r o' u' p q ws, P o u ds r o' u' ∧ vs = .ref p :: .ref q :: ws ∧ p ≠ q ∧ Same S H ∧ S p = none ∧ S q = none ∧ ObR K S H p o ∧ ObR K S H q u ∧ Reps K S ds ws ∧
  ∀ v H' S', Ret K S H (fun b => b = p ∨ b = q) r v H' S' → S' p = none → S' q = none → ObR K S' H' p o' → ObR K S' H' q u' → Q v H'
section
variable {Pg : Program} {w : World} {K : PySem.W.Frag} {mg : Str → Option Value} {base : Heap}
theorem ret_of {F : Fr} {Γ : Gm} {σ : L2.St} {H H' S S' : Hp} {md : Addr → Prop} {r : Rs} {v : V} (R : RS K ⟨H, S, md⟩ Γ σ H' S') (hm : ∀ b, md b → S' b = none) (nb : ∀ j, r ≠ .br j) (ok : RsOk K ⟨H, S, md⟩ Γ σ H' S' r v) : Ret K S H md r v H' S' := by
  refine ⟨R.s0, R.sh, fun b o e n => ?_, R.kp, R.th, ?_⟩
  · by_cases hb : md b
    · exact hm b hb
    · exact R.new b o e hb n
  · cases r with
    | sh d => exact ok
    | br j => exact (nb j rfl).elim
    | ow o =>
      obtain ⟨p, e, n1, n2, ob, _⟩ := ok
      exact ⟨p, e, n2, n1, ob⟩
theorem start_get {N : List Str} {vs : List V} (hl : vs.length ≤ N.length) {i : Nat} : (start N vs)[i]? = if i < vs.length then (vs[i]?).map some else if i < N.length then some none else none := by
  unfold L2.start
  by_cases h : i < vs.length
  · rw [if_pos h, List.getElem?_append_left (by simpa using h), List.getElem?_map]
  · rw [if_neg h, List.getElem?_append_right (by simpa using h), List.getElem?_replicate, List.length_map]
    by_cases h2 : i < N.length
    · rw [if_pos h2, if_pos (by omega)]
    · rw [if_neg h2, if_neg (by omega)]
theorem start_len {N : List Str} {vs : List V} (hl : vs.length ≤ N.length) : (start N vs).length = N.length := by
  unfold L2.start; rw [List.length_append, List.length_map, List.length_replicate]; omega
/-- the state at a def's entry -/
def ent (N : List Str) (ds : List D) : Gm := ds.map .sh ++ List.replicate (N.length - ds.length) .un
theorem ent_get {N : List Str} {ds : List D} {i : Nat} {s : Sl} (h : (ent N ds)[i]? = some s) : s = .un ∨ ∃ d, ds[i]? = some d ∧ s = .sh d := by
  unfold ent at h
  by_cases hi : i < ds.length
  · rw [List.getElem?_append_left (by simpa using hi), List.getElem?_map] at h
    obtain ⟨d, e1, e2⟩ := Option.map_eq_some_iff.mp h
    exact .inr ⟨d, e1, e2.symm⟩
  · rw [List.getElem?_append_right (by simpa using hi), List.getElem?_replicate] at h
    split at h
    · cases h; exact .inl rfl
    · cases h
theorem rs_start {N : List Str} {ds : List D} {vs : List V} {H S : Hp} (hs : Same S H) (r : Reps K S ds vs) (hl : vs.length ≤ N.length) : RS K ⟨H, S, fun _ => False⟩ (ent N ds) (start N vs) H S := by
  refine ⟨.refl _, hs, fun b o _ _ z => z, fun b o _ e => e, fun b o e => ⟨o, e⟩, fun i s e => ?_, fun i j a _ h _ => ?_, ?_⟩
  · rcases ent_get e with rfl | ⟨d, e1, rfl⟩
    · trivial
    · obtain ⟨v, q1, q2⟩ := r.get e1
      refine ⟨v, ?_, q2⟩
      rw [start_get hl, if_pos (List.getElem?_eq_some_iff.mp q1).1, q1]
      rfl
  · obtain ⟨⟨o, z⟩ | ⟨p, o, z⟩, _⟩ := h
    · rcases ent_get z with q | ⟨d, _, q⟩ <;> cases q
    · rcases ent_get z with q | ⟨d, _, q⟩ <;> cases q
  · rw [start_len hl]
    unfold ent
    rw [List.length_append, List.length_map, List.length_replicate, r.length]; omega
theorem rs_start1 {N : List Str} {ds : List D} {vs : List V} {H S : Hp} {p : Addr} {o : Ob} (hs : Same S H) (np : S p = none) (ob : ObR K S H p o) (r : Reps K S ds vs) (hl : vs.length + 1 ≤ N.length) : RS K ⟨H, S, fun b => b = p⟩ (.pr p o :: ent N.tail ds) (start N (.ref p :: vs)) H S := by
  have hlt : vs.length ≤ N.tail.length := by rw [List.length_tail]; omega
  have R0 := rs_start (N := N.tail) hs r hlt
  have hst : start N (.ref p :: vs) = some (.ref p) :: start N.tail vs := by
    unfold L2.start
    rw [List.map_cons, List.length_cons, List.length_tail, List.cons_append]
    congr 3
    omega
  rw [hst]
  refine ⟨.refl _, hs, fun b o _ _ z => z, fun b o _ e => e, fun b o e => ⟨o, e⟩, fun i s e => ?_, fun i j a ne h1 h2 => ?_, ?_⟩
  · cases i with
    | zero => cases e; exact ⟨rfl, np, .inr rfl, ob⟩
    | succ i =>
      have q := R0.sl i s (by simpa using e)
      rcases ent_get (show (ent N.tail ds)[i]? = some s by simpa using e) with rfl | ⟨d, _, rfl⟩
      · trivial
      · exact q
  · have no : ∀ (i : Nat) a, ¬ OwnAt (.pr p o :: ent N.tail ds) (some (.ref p) :: start N.tail vs) (i + 1) a := fun i a ⟨h, _⟩ => by
      rcases h with ⟨o, z⟩ | ⟨p, o, z⟩
      · rcases ent_get (show (ent N.tail ds)[i]? = _ by simpa using z) with q | ⟨d, _, q⟩ <;> cases q
      · rcases ent_get (show (ent N.tail ds)[i]? = _ by simpa using z) with q | ⟨d, _, q⟩ <;> cases q
    cases i with
    | succ i => exact no i a h1
    | zero =>
      cases j with
      | zero => exact ne rfl
      | succ j => exact no j a h2
  · rw [List.length_cons, List.length_cons, R0.len]
theorem rs_start2 {N : List Str} {ds : List D} {vs : List V} {H S : Hp} {p q : Addr} {o u : Ob} (hs : Same S H) (npq : p ≠ q) (np : S p = none) (nq : S q = none) (ob : ObR K S H p o) (ub : ObR K S H q u) (r : Reps K S ds vs) (hl : vs.length + 2 ≤ N.length) :
    RS K ⟨H, S, fun b => b = p ∨ b = q⟩ (.pr p o :: .pr q u :: ent N.tail.tail ds) (start N (.ref p :: .ref q :: vs)) H S := by
  have hlt : vs.length ≤ N.tail.tail.length := by rw [List.length_tail, List.length_tail]; omega
  have R0 := rs_start (N := N.tail.tail) hs r hlt
  have hst : start N (.ref p :: .ref q :: vs) = some (.ref p) :: some (.ref q) :: start N.tail.tail vs := by
    unfold L2.start
    rw [List.map_cons, List.map_cons, List.length_cons, List.length_cons, List.length_tail, List.length_tail, List.cons_append, List.cons_append]
    congr 4
    omega
  rw [hst]
  refine ⟨.refl _, hs, fun b o _ _ z => z, fun b o _ e => e, fun b o e => ⟨o, e⟩, fun i s e => ?_, fun i j a ne h1 h2 => ?_, ?_⟩
  · cases i with
    | zero => cases e; exact ⟨rfl, np, .inr (.inl rfl), ob⟩
    | succ i =>
      cases i with
      | zero => cases e; exact ⟨rfl, nq, .inr (.inr rfl), ub⟩
      | succ i =>
        have q := R0.sl i s (by simpa using e)
        rcases ent_get (show (ent N.tail.tail ds)[i]? = some s by simpa using e) with rfl | ⟨d, _, rfl⟩
        · trivial
        · exact q
  · have no : ∀ (i : Nat) a, ¬ OwnAt (.pr p o :: .pr q u :: ent N.tail.tail ds) (some (.ref p) :: some (.ref q) :: start N.tail.tail vs) (i + 2) a := fun i a ⟨h, _⟩ => by
      rcases h with ⟨o, z⟩ | ⟨p, o, z⟩
      · rcases ent_get (show (ent N.tail.tail ds)[i]? = _ by simpa using z) with q | ⟨d, _, q⟩ <;> cases q
      · rcases ent_get (show (ent N.tail.tail ds)[i]? = _ by simpa using z) with q | ⟨d, _, q⟩ <;> cases q
    have at0 : ∀ a, OwnAt (.pr p o :: .pr q u :: ent N.tail.tail ds) (some (.ref p) :: some (.ref q) :: start N.tail.tail vs) 0 a → a = p := fun a ⟨_, h⟩ => by cases h; rfl
    have at1 : ∀ a, OwnAt (.pr p o :: .pr q u :: ent N.tail.tail ds) (some (.ref p) :: some (.ref q) :: start N.tail.tail vs) 1 a → a = q := fun a ⟨_, h⟩ => by cases h; rfl
    match i, j with
    | 0, 0 => exact ne rfl
    | 0, 1 => exact npq ((at0 a h1).symm.trans (at1 a h2))
    | 1, 0 => exact npq ((at0 a h2).symm.trans (at1 a h1))
    | 1, 1 => exact ne rfl
    | i + 2, _ => exact no i a h1
    | _, j + 2 => exact no j a h2
  · rw [List.length_cons, List.length_cons, List.length_cons, List.length_cons, R0.len]
variable {x qual : Str} {params : Arguments} {body : List Stmt} {scope : Scope} {dvs : List V} {kws : List (Str × V)} {f : Addr} {fd : FuncData} {N ps : List Str} {k : Nat}
/-- the context of a def that is walked -/
abbrev cx (Pg : Program) (w : World) (K : PySem.W.Frag) (mg : Str → Option Value) (base : Heap) (N : List Str) (qual : Str) (scope : Scope) (f : Addr) (cd : Value) (A : Around) (outer : List Env) (s : Shared) (H : Hp) (E : XK) : Cx := cxOf (L2.CX Pg w) Pg w K mg base N qual scope f cd A outer s H E
theorem cx_po {cd : Value} {A : Around} {outer : List Env} {s : Shared} {H : Hp} {E : XK} : PassesOwn (model (cx Pg w K mg base N qual scope f cd A outer s H E).prog (cx Pg w K mg base N qual scope f cd A outer s H E).w) (cx Pg w K mg base N qual scope f cd A outer s H E).A (cx Pg w K mg base N qual scope f cd A outer s H E).env (cx Pg w K mg base N qual scope f cd A outer s H E).xe :=
  PassesOwn.leaving
/-- a block's end as a def's: handing back, or running out -/
def Ends1 (X : Cx) (Γ : Gm) (body : List Stmt) (r : Rs) (Γ' : Gm) : Prop := SX X Γ body (.rt r Γ') ∨ (r = .sh .non ∧ SX X Γ body (.nx Γ'))
theorem Ends1.run {X : Cx} {Γ Γ' : Gm} {r : Rs} {F : Fr} {σ : L2.St} {H S : Hp} {Q : VK} (h : Ends1 X Γ body r Γ') (R : RS X.K F Γ σ H S) (q : ∀ v σ' H' S', RS X.K F Γ' σ' H' S' → Same S S' → RsOk X.K F Γ' σ' H' S' r v → Q v H') :
    WS X body { nx := fun _ H' => Q .non H', rt := Q } σ H := by
  rcases h with h | ⟨rfl, h⟩
  · exact h F σ H S _ R q
  · exact h F σ H S _ R fun σ' H' S' R' s => q .non σ' H' S' R' s rfl
theorem fn0 {P : List D → Rs → Prop} (FD : FunD K x qual params body scope dvs kws f fd) (Sc : FnScope N ps scope) (hl : ∀ ds r, P ds r → ds.length = ps.length) (hn : ps.length ≤ N.length) (nb : ∀ ds r, P ds r → ∀ j, r ≠ .br j)
    (hb : ∀ cd A outer s H E, Gd k (cx Pg w K mg base N qual scope f cd A outer s H E) → ∀ ds r, P ds r → ∃ Γ', Ends1 (cx Pg w K mg base N qual scope f cd A outer s H E) (ent N ds) body r Γ') :
    FnOk Pg w K mg base (L2.CX Pg w) (k + 1) f fd ps (sp0 K P) := by
  refine FD.ok Sc (fun vs H Q E h => ?_) (fun cd A outer s H vs Q E hr h => ?_)
  · obtain ⟨S, ds, r, hp, _, rp, _⟩ := h
    rw [← rp.length]; exact hl ds r hp
  · obtain ⟨S, ds, r, hp, hs, rp, q⟩ := h
    obtain ⟨Γ', e1⟩ := hb cd A outer s H E ⟨rfl, Sc.nd, cx_po, hr⟩ ds r hp
    refine ⟨_, ws_pss, e1.run (rs_start (K := K) hs rp (by rw [← rp.length, hl ds r hp]; exact hn)) fun v σ' H' S' R' s' ok => q v H' S' (ret_of (F := ⟨H, S, fun _ => False⟩) R' (fun _ z => z.elim) (nb ds r hp) ok)⟩
theorem fn1 {P : Ob → List D → Rs → Ob → Prop} (FD : FunD K x qual params body scope dvs kws f fd) (Sc : FnScope N ps scope) (hl : ∀ o ds r o', P o ds r o' → ds.length + 1 = ps.length) (hn : ps.length ≤ N.length) (nb : ∀ o ds r o', P o ds r o' → ∀ j, r ≠ .br j)
    (hb : ∀ cd A outer s H E, Gd k (cx Pg w K mg base N qual scope f cd A outer s H E) → ∀ o ds r o', P o ds r o' → ∀ p, ∃ Γ', Ends1 (cx Pg w K mg base N qual scope f cd A outer s H E) (.pr p o :: ent N.tail ds) body r Γ' ∧ Γ'[0]? = some (.pr p o')) :
    FnOk Pg w K mg base (L2.CX Pg w) (k + 1) f fd ps (sp1 K P) := by
  refine FD.ok Sc (fun vs H Q E h => ?_) (fun cd A outer s H vs Q E hr h => ?_)
  · obtain ⟨S, o, ds, r, o', p, ws, hp, rfl, _, _, _, rp, _⟩ := h
    rw [List.length_cons, ← rp.length]; exact hl o ds r o' hp
  · obtain ⟨S, o, ds, r, o', p, ws, hp, rfl, hs, np, ob, rp, q⟩ := h
    obtain ⟨Γ', e1, e2⟩ := hb cd A outer s H E ⟨rfl, Sc.nd, cx_po, hr⟩ o ds r o' hp p
    refine ⟨_, ws_pss, e1.run (rs_start1 (K := K) hs np ob rp (by rw [← rp.length, hl o ds r o' hp]; exact hn)) fun v σ' H' S' R' s' ok => ?_⟩
    obtain ⟨_, n', _, ob'⟩ := R'.sl 0 _ e2
    exact q v H' S' (ret_of (F := ⟨H, S, fun b => b = p⟩) R' (fun b z => by rw [z]; exact n') (nb o ds r o' hp) ok) n' ob'
theorem fn2 {P : Ob → Ob → List D → Rs → Ob → Ob → Prop} (FD : FunD K x qual params body scope dvs kws f fd) (Sc : FnScope N ps scope) (hl : ∀ o u ds r o' u', P o u ds r o' u' → ds.length + 2 = ps.length) (hn : ps.length ≤ N.length) (nb : ∀ o u ds r o' u', P o u ds r o' u' → ∀ j, r ≠ .br j)
    (hb : ∀ cd A outer s H E, Gd k (cx Pg w K mg base N qual scope f cd A outer s H E) → ∀ o u ds r o' u', P o u ds r o' u' → ∀ p q, ∃ Γ', Ends1 (cx Pg w K mg base N qual scope f cd A outer s H E) (.pr p o :: .pr q u :: ent N.tail.tail ds) body r Γ' ∧ Γ'[0]? = some (.pr p o') ∧ Γ'[1]? = some (.pr q u')) :
    FnOk Pg w K mg base (L2.CX Pg w) (k + 1) f fd ps (sp2 K P) := by
  refine FD.ok Sc (fun vs H Q E h => ?_) (fun cd A outer s H vs Q E hr h => ?_)
  · obtain ⟨S, o, u, ds, r, o', u', p, q, ws, hp, rfl, _, _, _, _, _, _, rp, _⟩ := h
    rw [List.length_cons, List.length_cons, ← rp.length]; exact hl o u ds r o' u' hp
  · obtain ⟨S, o, u, ds, r, o', u', p, q, ws, hp, rfl, npq, hs, np, nq, ob, ub, rp, k⟩ := h
    obtain ⟨Γ', e1, e2, e3⟩ := hb cd A outer s H E ⟨rfl, Sc.nd, cx_po, hr⟩ o u ds r o' u' hp p q
    refine ⟨_, ws_pss, e1.run (rs_start2 (K := K) hs npq np nq ob ub rp (by rw [← rp.length, hl o u ds r o' u' hp]; exact hn)) fun v σ' H' S' R' s' ok => ?_⟩
    obtain ⟨_, n', _, ob'⟩ := R'.sl 0 _ e2
    obtain ⟨_, n2, _, ub'⟩ := R'.sl 1 _ e3
    exact k v H' S' (ret_of (F := ⟨H, S, fun b => b = p ∨ b = q⟩) R' (fun b z => z.elim (fun z => by rw [z]; exact n') fun z => by rw [z]; exact n2) (nb o u ds r o' u' hp) ok) n' n2 ob' ub'
end
/-! ### calls -/
section
variable {X : Cx} {Γ Γ1 Γ2 : Gm} {e : Ex} {es : List Ex} {p pos : Pos} {r : Rs} {ds dds : List D} {j k : Nat} {f : Addr} {fd : FuncData} {ps : List Str} {x : Str} {dvs : List V} {dv : List Value}
/-- a def's place: its name, its address -/
structure At (X : Cx) (x : Str) (f : Addr) : Prop where
  mg : X.mg x = some (.ref f)
  kp : PySem.W.keepIn X.K (.ref f) = true
theorem RS.after {K : PySem.W.Frag} {F : Fr} {σ : L2.St} {H S H' S' : Hp} {v : V} {md : Addr → Prop} {r : Rs} (R : RS K F Γ σ H S) (t : Ret K S H md r v H' S') (hmd : ∀ b, md b → Own Γ σ b ∨ F.H0 b = none) (hl : Γ1.length = Γ.length)
    (hs : ∀ (i : Nat) s, Γ1[i]? = some s → (Γ[i]? = some s ∧ ∀ b, OwnAt Γ σ i b → ¬ md b) ∨ (∃ b o', OwnAt Γ σ i b ∧ ObR K S' H' b o' ∧ ∃ s0, Γ[i]? = some s0 ∧ s = s0.re o')) : RS K F Γ1 σ H' S' ∧ RsOk K F Γ1 σ H' S' r v := by
  have ow : ∀ i b, OwnAt Γ1 σ i b → OwnAt Γ σ i b := fun i b ⟨h, q⟩ => by
    have key : ∀ s, Γ1[i]? = some s → (∃ o, s = .ow o) ∨ (∃ p o, s = .pr p o) → OwnAt Γ σ i b := fun s es hk => by
      rcases hs i s es with ⟨e, _⟩ | ⟨b', o', own, _, _⟩
      · refine ⟨?_, q⟩
        rcases hk with ⟨o, rfl⟩ | ⟨p, o, rfl⟩
        · exact .inl ⟨o, e⟩
        · exact .inr ⟨p, o, e⟩
      · exact ⟨own.1, q⟩
    rcases h with ⟨o, z⟩ | ⟨p, o, z⟩
    · exact key _ z (.inl ⟨o, rfl⟩)
    · exact key _ z (.inr ⟨p, o, rfl⟩)
  have noM : ∀ b o, F.H0 b = some o → ¬ F.op b → ¬ md b := fun b o e n hm => by
    rcases hmd b hm with ⟨i, own⟩ | z
    · rcases (R.own own).2.1 with z | z
      · rw [e] at z; cases z
      · exact n z
    · rw [e] at z; cases z
  have un : ∀ i b, OwnAt Γ σ i b → S' b = none := fun i b own => by
    obtain ⟨n, _, o, ob⟩ := R.own own
    obtain ⟨y, hy⟩ := ob.there
    exact t.new b y hy n
  have R' : RS K F Γ1 σ H' S' := by
    refine ⟨R.s0.trans t.ss, t.sh, fun b o e n z => t.new b o (R.kp b o n e) (R.new b o e n z), fun b o n e => t.kp b o (noM b o e n) (R.kp b o n e), fun b o e => (R.th b o e).elim fun o' q => t.th b o' q, fun i s es => ?_,
      fun i j b ne h1 h2 => R.ne i j b ne (ow i b h1) (ow j b h2), hl.trans R.len⟩
    rcases hs i s es with ⟨e, nm⟩ | ⟨b, o', own, ob, s0, e0, rfl⟩
    · have w := R.sl i s e
      cases s with
      | un => trivial
      | sh d => obtain ⟨v, e1, e2⟩ := w; exact ⟨v, e1, Rep.mono t.ss _ _ e2⟩
      | ow o => obtain ⟨b, e1, e2, e3, e4⟩ := w; exact ⟨b, e1, un i b ⟨.inl ⟨o, e⟩, e1⟩, e3, e4.mono t.ss fun y hy => t.kp b y (nm b ⟨.inl ⟨o, e⟩, e1⟩) hy⟩
      | pr p o => obtain ⟨e1, e2, e3, e4⟩ := w; exact ⟨e1, un i p ⟨.inr ⟨p, o, e⟩, e1⟩, e3, e4.mono t.ss fun y hy => t.kp p y (nm p ⟨.inr ⟨p, o, e⟩, e1⟩) hy⟩
    · have h1 := R.own own
      have h2 := un i b own
      obtain ⟨hk, q⟩ := own
      rw [e0] at hk
      rcases hk with ⟨o, z⟩ | ⟨p, o, z⟩
      · cases z; exact ⟨b, q, h2, h1.2.1, ob⟩
      · cases z
        obtain ⟨w1, _⟩ := R.sl i _ e0
        rw [q] at w1; cases w1
        exact ⟨q, h2, h1.2.1, ob⟩
  refine ⟨R', ?_⟩
  have rs := t.res
  cases r with
  | sh d => exact rs
  | br i => exact rs.elim
  | ow o =>
    obtain ⟨b, rfl, n, n', ob⟩ := rs
    exact ⟨b, rfl, n', R.h0None n, ob, fun ⟨i, own⟩ => R.ownNone n ⟨i, ow i b own⟩⟩
theorem RS.after0 {K : PySem.W.Frag} {F : Fr} {σ : L2.St} {H S H' S' : Hp} {v : V} {r : Rs} (R : RS K F Γ σ H S) (t : Ret K S H (fun _ => False) r v H' S') : RS K F Γ σ H' S' ∧ RsOk K F Γ σ H' S' r v :=
  R.after t (fun _ z => z.elim) rfl fun i s e => .inl ⟨e, fun _ _ z => z⟩
/-- what a call leaves the slots with (the first argument's slot holds another content) -/
theorem RS.after1 {K : PySem.W.Frag} {F : Fr} {σ : L2.St} {H S H' S' : Hp} {v : V} {r : Rs} {i : Nat} {s : Sl} {p : Addr} {o' : Ob} (R : RS K F Γ σ H S) (own : OwnAt Γ σ i p) (hs : Γ[i]? = some s) (t : Ret K S H (fun b => b = p) r v H' S') (ob : ObR K S' H' p o') : RS K F (Γ.set i (s.re o')) σ H' S' ∧ RsOk K F (Γ.set i (s.re o')) σ H' S' r v := by
  refine R.after t (fun b z => by rw [z]; exact .inl ⟨i, own⟩) List.length_set fun l u e => ?_
  have hi : i < Γ.length := (List.getElem?_eq_some_iff.mp hs).1
  by_cases hl : l = i
  · subst hl
    rw [List.getElem?_set_self hi] at e
    cases e
    exact .inr ⟨p, o', own, ob, s, hs, rfl⟩
  · rw [List.getElem?_set_ne (Ne.symm hl)] at e
    exact .inl ⟨e, fun b ob' z => R.ne l i b hl ob' (by rw [z]; exact own)⟩
theorem RS.after2 {K : PySem.W.Frag} {F : Fr} {σ : L2.St} {H S H' S' : Hp} {v : V} {r : Rs} {i m : Nat} {s s2 : Sl} {p q : Addr} {o' u' : Ob} (R : RS K F Γ σ H S) (hne : i ≠ m) (own : OwnAt Γ σ i p) (own2 : OwnAt Γ σ m q) (hs : Γ[i]? = some s) (hs2 : Γ[m]? = some s2) (t : Ret K S H (fun b => b = p ∨ b = q) r v H' S') (ob : ObR K S' H' p o') (ub : ObR K S' H' q u') :
    RS K F ((Γ.set i (s.re o')).set m (s2.re u')) σ H' S' ∧ RsOk K F ((Γ.set i (s.re o')).set m (s2.re u')) σ H' S' r v := by
  refine R.after t (fun b z => z.elim (fun z => by rw [z]; exact .inl ⟨i, own⟩) fun z => by rw [z]; exact .inl ⟨m, own2⟩) (by rw [List.length_set, List.length_set]) fun l u e => ?_
  have hi : i < Γ.length := (List.getElem?_eq_some_iff.mp hs).1
  have hm : m < Γ.length := (List.getElem?_eq_some_iff.mp hs2).1
  by_cases hl2 : l = m
  · subst hl2
    rw [List.getElem?_set_self (by rw [List.length_set]; exact hm)] at e
    cases e
    exact .inr ⟨q, u', own2, ub, s2, hs2, rfl⟩
  · rw [List.getElem?_set_ne (Ne.symm hl2)] at e
    by_cases hl : l = i
    · subst hl
      rw [List.getElem?_set_self hi] at e
      cases e
      exact .inr ⟨p, o', own, ob, s, hs, rfl⟩
    · rw [List.getElem?_set_ne (Ne.symm hl)] at e
      exact .inl ⟨e, fun b ob' z => z.elim (fun z => R.ne l i b hl ob' (by rw [z]; exact own)) fun z => R.ne l m b hl2 ob' (by rw [z]; exact own2)⟩
theorem e_call0 {P : List D → Rs → Prop} (Fo : FnOk X.prog X.w X.K X.mg X.base (L2.CX X.prog X.w) j f fd ps (sp0 X.K P)) (at_ : At X x f) (g : Gd k X) (hp : P (ds ++ dds) r) (ha : AX X Γ (e :: es) ds Γ1) (hb : Binds X.K fd ps dv) (hd : Vals dvs dv) (hdd : ∀ S, Reps X.K S dds dvs) (hk : j ≤ k := by decide) (hg : Gl X x := by rfl)
    (hdb : (x == ("__debug__" : Str)) = false := by decide) (he : starEach (e :: es) X.env = (false, eval e X.env) :: starEach es X.env := by rfl) (hpl : (backTo pos (starEach es X.env)).any (·.1) = false := by rfl) : EX X Γ (.Call (.Name x p) (e :: es) [] pos) r Γ1 := fun F σ H S Q R q =>
  pe_we (pe_call Fo (g.rm.mono hk) hg at_.mg at_.kp hb hd passL wa_pa hdb he hpl) (ha F σ H S _ R fun vs H1 S1 R1 s1 ok => ⟨S1, ds ++ dds, r, hp, R1.sh, ok.append (hdd S1), fun v H2 S2 t => by
    obtain ⟨R2, ok2⟩ := R1.after0 t
    exact q v H2 S2 R2 (s1.trans t.ss) ok2⟩)
/-- the same without arguments -/
theorem e_call00 {P : List D → Rs → Prop} (Fo : FnOk X.prog X.w X.K X.mg X.base (L2.CX X.prog X.w) j f fd ps (sp0 X.K P)) (at_ : At X x f) (g : Gd k X) (hp : P dds r) (hb : Binds X.K fd ps dv) (hd : Vals dvs dv) (hdd : ∀ S, Reps X.K S dds dvs) (hk : j ≤ k := by decide) (hg : Gl X x := by rfl)
    (hdb : (x == ("__debug__" : Str)) = false := by decide) : EX X Γ (.Call (.Name x p) [] [] pos) r Γ := fun F σ H S Q R q =>
  pe_we (pe_call0 Fo (g.rm.mono hk) hg at_.mg at_.kp hb hd passL hdb) ⟨S, dds, r, hp, R.sh, hdd S, fun v H2 S2 t => by
    obtain ⟨R2, ok2⟩ := R.after0 t
    exact q v H2 S2 R2 t.ss ok2⟩
/-- f(o, e, ..): o a name whose slot i owns an object -/
theorem e_call1 {P : Ob → List D → Rs → Ob → Prop} {y : Str} {py : Pos} {i : Nat} {s s0 : Sl} {o o0 o' : Ob} (Fo : FnOk X.prog X.w X.K X.mg X.base (L2.CX X.prog X.w) j f fd ps (sp1 X.K P)) (at_ : At X x f) (g : Gd k X) (h0 : Has Γ i s0 o0) (ha : AX X Γ es ds Γ1) (h1 : Has Γ1 i s o) (hp : P o (ds ++ dds) r o') (hb : Binds X.K fd ps dv) (hd : Vals dvs dv) (hdd : ∀ S, Reps X.K S dds dvs)
    (hk : j ≤ k := by decide) (hg : Gl X x := by rfl) (hN : X.N[i]? = some y := by rfl) (hv : Vis X.env.scope y := by first | exact Or.inl rfl | exact Or.inr (Or.inl rfl) | exact Or.inr (Or.inr rfl)) (hyd : (y == ("__debug__" : Str)) = false := by decide) (hcd : (y == ("__classdict__" : Str)) = false := by decide)
    (hdb : (x == ("__debug__" : Str)) = false := by decide) (he : starEach (.Name y py :: es) X.env = (false, eval (.Name y py) X.env) :: starEach es X.env := by rfl) (hpl : (backTo pos (starEach es X.env)).any (·.1) = false := by rfl) : EX X Γ (.Call (.Name x p) (.Name y py :: es) [] pos) r (Γ1.set i (s.re o')) := fun F σ H S Q R q => by
  obtain ⟨l, own0, _⟩ := R.has h0
  refine pe_we (pe_call Fo (g.rm.mono hk) hg at_.mg at_.kp hb hd passL (pa_cons (pe_var hN hv hyd hcd) wa_pa he) hdb he hpl) ⟨_, own0.2, ha F σ H S _ R fun vs H1 S1 R1 s1 ok => ?_⟩
  obtain ⟨l', own1, ob⟩ := R1.has h1
  obtain rfl := own0.eq own1
  refine ⟨S1, o, ds ++ dds, r, o', l, vs ++ dvs, hp, rfl, R1.sh, (R1.own own1).1, ob, ok.append (hdd S1), fun v H2 S2 t n2 ob2 => ?_⟩
  obtain ⟨R2, ok2⟩ := R1.after1 own1 h1.1 t ob2
  exact q v H2 S2 R2 (s1.trans t.ss) ok2
theorem e_call2 {P : Ob → Ob → List D → Rs → Ob → Ob → Prop} {y z : Str} {py pz : Pos} {i m : Nat} {s s0 s2 s20 : Sl} {o o0 o' u u0 u' : Ob} (Fo : FnOk X.prog X.w X.K X.mg X.base (L2.CX X.prog X.w) j f fd ps (sp2 X.K P)) (at_ : At X x f) (g : Gd k X) (hne : i ≠ m) (h0 : Has Γ i s0 o0) (h20 : Has Γ m s20 u0) (ha : AX X Γ es ds Γ1) (h1 : Has Γ1 i s o) (h2 : Has Γ1 m s2 u) (hp : P o u (ds ++ dds) r o' u') (hb : Binds X.K fd ps dv) (hd : Vals dvs dv) (hdd : ∀ S, Reps X.K S dds dvs)
    (hk : j ≤ k := by decide) (hg : Gl X x := by rfl) (hN : X.N[i]? = some y := by rfl) (hv : Vis X.env.scope y := by first | exact Or.inl rfl | exact Or.inr (Or.inl rfl) | exact Or.inr (Or.inr rfl)) (hyd : (y == ("__debug__" : Str)) = false := by decide) (hcd : (y == ("__classdict__" : Str)) = false := by decide)
    (hN2 : X.N[m]? = some z := by rfl) (hv2 : Vis X.env.scope z := by first | exact Or.inl rfl | exact Or.inr (Or.inl rfl) | exact Or.inr (Or.inr rfl)) (hyd2 : (z == ("__debug__" : Str)) = false := by decide) (hcd2 : (z == ("__classdict__" : Str)) = false := by decide)
    (hdb : (x == ("__debug__" : Str)) = false := by decide) (he : starEach (.Name y py :: .Name z pz :: es) X.env = (false, eval (.Name y py) X.env) :: starEach (.Name z pz :: es) X.env := by rfl) (he2 : starEach (.Name z pz :: es) X.env = (false, eval (.Name z pz) X.env) :: starEach es X.env := by rfl) (hpl : (backTo pos (starEach (.Name z pz :: es) X.env)).any (·.1) = false := by rfl) :
    EX X Γ (.Call (.Name x p) (.Name y py :: .Name z pz :: es) [] pos) r ((Γ1.set i (s.re o')).set m (s2.re u')) := fun F σ H S Q R q => by
  obtain ⟨l, own0, _⟩ := R.has h0
  obtain ⟨l2, own20, _⟩ := R.has h20
  refine pe_we (pe_call Fo (g.rm.mono hk) hg at_.mg at_.kp hb hd passL (pa_cons (pe_var hN hv hyd hcd) (pa_cons (pe_var hN2 hv2 hyd2 hcd2) wa_pa he2) he) hdb he hpl) ⟨_, own0.2, _, own20.2, ha F σ H S _ R fun vs H1 S1 R1 s1 ok => ?_⟩
  obtain ⟨l', own1, ob⟩ := R1.has h1
  obtain rfl := own0.eq own1
  obtain ⟨l2', own2, ub⟩ := R1.has h2
  obtain rfl := own20.eq own2
  have npq : l ≠ l2 := fun z => R1.ne i m l hne own1 (by rw [z]; exact own2)
  refine ⟨S1, o, u, ds ++ dds, r, o', u', l, l2, vs ++ dvs, hp, rfl, npq, R1.sh, (R1.own own1).1, (R1.own own2).1, ob, ub, ok.append (hdd S1), fun v H2 S2 t n2 n3 ob2 ub2 => ?_⟩
  obtain ⟨R2, ok2⟩ := R1.after2 hne own1 own2 h1.1 h2.1 t ob2 ub2
  exact q v H2 S2 R2 (s1.trans t.ss) ok2
/-- o.m(e, ..): o a shared object -/
theorem zip_none {K : PySem.W.Frag} {S : Hp} {f : Str} : ∀ {ns : List Str} {ds : List D} {vs : List V}, Reps K S ds vs → ns.length = vs.length → (ns.zip ds).lookup f = none → (ns.zip vs).lookup f = none
  | [], _, _, _, _, _ => rfl
  | n :: ns, [], _, h, l, e => by rw [show _ = [] from h] at l; cases l
  | n :: ns, d' :: ds, _, ⟨v, r, rfl, h2, h3⟩, l, e => by
    rw [List.zip_cons_cons, List.lookup_cons] at e ⊢
    by_cases h : f == n
    · rw [h] at e; cases e
    · rw [Bool.eq_false_iff.mpr h] at e ⊢
      exact zip_none h3 (by simpa using l) e
theorem e_meth0 {P : List D → Rs → Prop} {o : Ex} {m : Str} {apos : Pos} {C : Addr} {ns : List Str} {fs : List D} {pl : Sem Bool} (Fo : FnOk X.prog X.w X.K X.mg X.base (L2.CX X.prog X.w) j f fd ps (sp0 X.K P)) (c : Cls X.K C) (hm : Meth X.K C m f) (g : Gd k X) (ho : EX X Γ o (.sh (.obj C ns fs)) Γ1) (hno : (ns.zip fs).lookup m = none) (hp : P (.obj C ns fs :: dds) r) (hb : Binds X.K fd ps dv) (hd : Vals dvs dv) (hdd : ∀ S, Reps X.K S dds dvs) (hk : j ≤ k := by decide)
    (ht : eval (.Call (.Attribute o m apos) [] [] pos) X.env = (do
      let ov ← eval o X.env
      standAt apos.atName
      let (f, first) ← holding [ov] (getMethod ov m pl)
      callWith pos f first (backTo pos (starEach [] X.env)) (backToKw pos (keywordEach [] X.env))) := by rfl) : EX X Γ (.Call (.Attribute o m apos) [] [] pos) r Γ1 := fun F σ H S Q R q =>
  pe_we (pe_meth0 we_pe c hm Fo (g.rm.mono hk) hb hd passL ht) (ho F σ H S _ R fun v H1 S1 R1 s1 ok => by
    obtain ⟨a, dx, vs, rfl, h1, h2, h3⟩ := id ok
    refine ⟨a, dx, _, rfl, R1.sh _ _ h1, zip_none h3 h2 hno, S1, .obj C ns fs :: dds, r, hp, R1.sh, .cons ok (hdd S1), fun v H2 S2 t => ?_⟩
    obtain ⟨R2, ok2⟩ := R1.after0 t
    exact q v H2 S2 R2 (s1.trans t.ss) ok2)
theorem e_meth {P : List D → Rs → Prop} {o : Ex} {m : Str} {apos : Pos} {C : Addr} {ns : List Str} {fs : List D} {pl : Sem Bool} (Fo : FnOk X.prog X.w X.K X.mg X.base (L2.CX X.prog X.w) j f fd ps (sp0 X.K P)) (c : Cls X.K C) (hm : Meth X.K C m f) (g : Gd k X) (ho : EX X Γ o (.sh (.obj C ns fs)) Γ1) (hno : (ns.zip fs).lookup m = none) (ha : AX X Γ1 (e :: es) ds Γ2) (hp : P (.obj C ns fs :: (ds ++ dds)) r) (hb : Binds X.K fd ps dv) (hd : Vals dvs dv) (hdd : ∀ S, Reps X.K S dds dvs) (hk : j ≤ k := by decide)
    (hst : starEach (e :: es) X.env = (false, eval e X.env) :: starEach es X.env := by rfl) (hpl : (backTo pos (starEach es X.env)).any (·.1) = false := by rfl)
    (ht : eval (.Call (.Attribute o m apos) (e :: es) [] pos) X.env = (do
      let ov ← eval o X.env
      standAt apos.atName
      let (f, first) ← holding [ov] (getMethod ov m pl)
      callWith pos f first (backTo pos (starEach (e :: es) X.env)) (backToKw pos (keywordEach [] X.env))) := by rfl) : EX X Γ (.Call (.Attribute o m apos) (e :: es) [] pos) r Γ2 := fun F σ H S Q R q =>
  pe_we (pe_meth we_pe c hm Fo (g.rm.mono hk) hb hd passL wa_pa hst hpl ht) (ho F σ H S _ R fun v H1 S1 R1 s1 ok => by
    obtain ⟨a, dx, vs, rfl, h1, h2, h3⟩ := id ok
    refine ⟨a, dx, _, rfl, R1.sh _ _ h1, zip_none h3 h2 hno, ha F σ H1 S1 _ R1 fun us H2 S2 R2 s2 ok2 => ?_⟩
    refine ⟨S2, .obj C ns fs :: (ds ++ dds), r, hp, R2.sh, .cons (Rep.mono s2 _ _ ok) (ok2.append (hdd S2)), fun v H3 S3 t => ?_⟩
    obtain ⟨R3, ok3⟩ := R2.after0 t
    exact q v H3 S3 R3 ((s1.trans s2).trans t.ss) ok3)
/-- C(e, ..): a new object, by its __init__ -/
theorem e_make {P : Ob → List D → Rs → Ob → Prop} {C : Addr} {o' : Ob} (M : Mk X.K C f) (Fo : FnOk X.prog X.w X.K X.mg X.base (L2.CX X.prog X.w) j f fd ps (sp1 X.K P)) (hm : X.mg x = some (.ref C)) (g : Gd k X) (ha : AX X Γ (e :: es) ds Γ1) (hp : P (.ins C [] []) (ds ++ dds) (.sh .non) o') (hb : Binds X.K fd ps dv) (hd : Vals dvs dv) (hdd : ∀ S, Reps X.K S dds dvs)
    (hk : j + 1 ≤ k := by decide) (hg : Gl X x := by rfl) (hdb : (x == ("__debug__" : Str)) = false := by decide) (he : starEach (e :: es) X.env = (false, eval e X.env) :: starEach es X.env := by rfl) (hpl : (backTo pos (starEach es X.env)).any (·.1) = false := by rfl) : EX X Γ (.Call (.Name x p) (e :: es) [] pos) (.ow o') Γ1 := fun F σ H S Q R q =>
  pe_we (pe_make M Fo (g.rm.mono hk) hg hm hb hd passL wa_pa hdb he hpl) (ha F σ H S _ R fun vs H1 S1 R1 s1 ok => fun a dx na nd ne => by
    have g1 : Same H1 (upd (upd H1 dx (.own a)) a (.ins C dx [])) := (same_upd nd).trans (same_upd (by rw [upd_ne ne.symm]; exact na))
    have R2 := R1.grow g1
    refine ⟨S1, .ins C [] [], ds ++ dds, .sh .non, o', a, vs ++ dvs, hp, rfl, R2.sh, R1.sNone na, ⟨dx, [], upd_same, rfl, rfl⟩, ok.append (hdd S1), fun v H2 S2 t n2 ob2 => ⟨t.res, ?_⟩⟩
    have t' : Ret X.K S1 H1 (fun _ => False) (.ow o') (.ref a) H2 S2 := ⟨t.ss, t.sh, fun b o e n => t.new b o (g1 b o e) n, fun b o _ e => t.kp b o (fun z => by rw [z, na] at e; cases e) (g1 b o e), fun b o e => t.th b o (g1 b o e), a, rfl, na, n2, ob2⟩
    obtain ⟨R3, ok3⟩ := R1.after0 t'
    exact q (.ref a) H2 S2 R3 (s1.trans t.ss) ok3)
end
end PL

set_option Elab.async false
set_option linter.all false
set_option maxRecDepth 100000
set_option maxHeartbeats 1000000
namespace PL
open PySem PySem.Spec PyProof.Rows L2
/-- what an iterator yields: n items, the i-th one stands for it i -/
def Walk (K : PySem.W.Frag) (J : It) (n : Nat) (it : Nat → D) (S : Hp) : Prop := ∀ i H, Same S H → (i < n → J.go i H) ∧ (i = n → J.stop i H) ∧ ∀ x H', i < n → J.yld i H x H' →
  (H' = H ∧ ∀ S', Same S S' → Rep K S' (it i) x) ∨ (∃ T vs ds, x = .ref T ∧ H T = none ∧ H' = upd H T (.tup vs) ∧ it i = .tup ds ∧ ∀ S', Same S S' → Reps K S' ds vs)
section
variable {X : Cx} {Γ Γ1 Γ2 : Gm} {tg iter e a b c : Ex} {body : List Stmt} {pos p : Pos} {n k : Nat} {it : Nat → D} {ds : List D}
def IterX (X : Cx) (tg iter : Ex) (Γ : Gm) (n : Nat) (it : Nat → D) (Γ1 : Gm) : Prop := ∃ wi, PI X tg iter wi ∧ ∀ F σ H S (R' : It → Hp → Prop), RS X.K F Γ σ H S →
  (∀ J H1 S1, RS X.K F Γ1 σ H1 S1 → Same S S1 → Walk X.K J n it S1 → R' J H1) → wi σ H R'
/-- a yielded item comes into the state -/
theorem Walk.take {K : PySem.W.Frag} {J : It} {F : Fr} {σ : L2.St} {H S S0 : Hp} {i : Nat} {x : V} {H' : Hp} (w : Walk K J n it S0) (R : RS K F Γ σ H S) (s : Same S0 S) (hi : i < n) (y : J.yld i H x H') : ∃ S', Same S S' ∧ RS K F Γ σ H' S' ∧ Rep K S' (it i) x := by
  rcases (w i H (s.trans R.sh)).2.2 x H' hi y with ⟨rfl, r⟩ | ⟨T, vs, ds, rfl, nT, rfl, e, r⟩
  · exact ⟨S, .refl _, R, r S s⟩
  · obtain ⟨R1, s1⟩ := R.laid (o := .tup vs) nT
    refine ⟨_, s1, R1, ?_⟩
    rw [e]
    exact ⟨T, vs, rfl, .of upd_same, r _ (s.trans s1)⟩
/-- for: all turns -/
theorem s1_for (g : Gd k X) (hi : IterX X tg iter Γ n it Γ1) (G B : Nat → Gm) (h0 : Cv X.K Γ1 (G 0)) (hg : ∀ i, i < n → GX X tg (G i) (it i) (B i)) (hb : ∀ i, i < n → SX X (B i) body (.nx (G (i + 1))) ∨ SX X (B i) body (.ct (G (i + 1))))
    (hs : ∀ x, foldedSetIterable iter X.env x = pure x := by intro _; rfl) : S1 X Γ (.For tg iter body [] pos) (.nx (G n)) := fun F σ H S D R q => by
  obtain ⟨wi, hw, hq⟩ := hi
  refine ps_w1 (ps_for g.po g.calm hw wg_pg ws_pss hs) (hq F σ H S _ R fun J H1 S1 R1 s1 w => ?_)
  obtain ⟨S2, s2, R2⟩ := h0 F σ H1 S1 R1
  refine ⟨fun i m σ' H' => m = n - i ∧ i ≤ n ∧ ∃ S', RS X.K F (G i) σ' H' S' ∧ Same S2 S', ⟨n, rfl, Nat.zero_le _, S2, R2, .refl _⟩, ?_⟩
  rintro i m σ' H' ⟨rfl, hi, S', R', s'⟩
  have sS : Same S1 S' := s2.trans s'
  by_cases hlt : i < n
  · refine .inr ⟨(w i H' (sS.trans R'.sh)).1 hlt, fun σ2 H2 => ∃ S3, RS X.K F (G (i + 1)) σ2 H2 S3 ∧ Same S2 S3, fun σ2 H2 ⟨S3, R3, s3⟩ => ⟨n - (i + 1), by omega, rfl, hlt, S3, R3, s3⟩, fun x H2 y => ?_⟩
    obtain ⟨S3, s3, R3, rx⟩ := w.take R' sS hlt y
    refine hg i hlt F σ' H2 S3 x _ R3 rx fun σ4 H4 S4 R4 s4 => ?_
    rcases hb i hlt with hb | hb
    · exact hb F σ4 H4 S4 _ R4 fun σ5 H5 S5 R5 s5 => ⟨S5, R5, ((s'.trans s3).trans s4).trans s5⟩
    · exact hb F σ4 H4 S4 _ R4 fun σ5 H5 S5 R5 s5 => ⟨S5, R5, ((s'.trans s3).trans s4).trans s5⟩
  · obtain rfl : i = n := by omega
    exact .inl ⟨(w i H' (sS.trans R'.sh)).2.1 rfl, q σ' H' S' R' ((s1.trans s2).trans s')⟩
/-- for: left in turn m, by return or break -/
theorem s1_forX {o o' : Out} (m : Nat) (g : Gd k X) (hi : IterX X tg iter Γ n it Γ1) (G B : Nat → Gm) (h0 : Cv X.K Γ1 (G 0)) (hm : m < n) (hg : ∀ i, i ≤ m → GX X tg (G i) (it i) (B i)) (hb : ∀ i, i < m → SX X (B i) body (.nx (G (i + 1))) ∨ SX X (B i) body (.ct (G (i + 1)))) (hx : SX X (B m) body o)
    (ho : (∃ r Γ', o = .rt r Γ' ∧ o' = .rt r Γ') ∨ ∃ Γ', o = .bk Γ' ∧ o' = .nx Γ') (hs : ∀ x, foldedSetIterable iter X.env x = pure x := by intro _; rfl) : S1 X Γ (.For tg iter body [] pos) o' := fun F σ H S D R q => by
  obtain ⟨wi, hw, hq⟩ := hi
  refine ps_w1 (ps_for g.po g.calm hw wg_pg ws_pss hs) (hq F σ H S _ R fun J H1 S1 R1 s1 w => ?_)
  obtain ⟨S2, s2, R2⟩ := h0 F σ H1 S1 R1
  refine ⟨fun i t σ' H' => t = m - i ∧ i ≤ m ∧ ∃ S', RS X.K F (G i) σ' H' S' ∧ Same S2 S', ⟨m, rfl, Nat.zero_le _, S2, R2, .refl _⟩, ?_⟩
  rintro i t σ' H' ⟨rfl, hi, S', R', s'⟩
  have sS : Same S1 S' := s2.trans s'
  have hlt : i < n := by omega
  refine .inr ⟨(w i H' (sS.trans R'.sh)).1 hlt, fun σ2 H2 => i < m ∧ ∃ S3, RS X.K F (G (i + 1)) σ2 H2 S3 ∧ Same S2 S3, fun σ2 H2 ⟨him, S3, R3, s3⟩ => ⟨m - (i + 1), by omega, rfl, him, S3, R3, s3⟩, fun x H2 y => ?_⟩
  obtain ⟨S3, s3, R3, rx⟩ := w.take R' sS hlt y
  refine hg i hi F σ' H2 S3 x _ R3 rx fun σ4 H4 S4 R4 s4 => ?_
  by_cases him : i < m
  · rcases hb i him with hb | hb
    · exact hb F σ4 H4 S4 _ R4 fun σ5 H5 S5 R5 s5 => ⟨him, S5, R5, ((s'.trans s3).trans s4).trans s5⟩
    · exact hb F σ4 H4 S4 _ R4 fun σ5 H5 S5 R5 s5 => ⟨him, S5, R5, ((s'.trans s3).trans s4).trans s5⟩
  · obtain rfl : i = m := by omega
    have all : Same S S4 := ((((s1.trans s2).trans s').trans s3).trans s4)
    rcases ho with ⟨r, Γ', rfl, rfl⟩ | ⟨Γ', rfl, rfl⟩
    · exact hx F σ4 H4 S4 _ R4 fun v σ5 H5 S5 R5 s5 ok => q v σ5 H5 S5 R5 (all.trans s5) ok
    · exact hx F σ4 H4 S4 _ R4 fun σ5 H5 S5 R5 s5 => q σ5 H5 S5 R5 (all.trans s5)
/-! ### what is walked -/
theorem it_range1 {j : Int} (hm : X.mg "range" = none) (h : AX X Γ [a] [.int j] Γ1) (h1 : -(2 ^ 62) ≤ j) (h2 : j < 2 ^ 62) (hg : Gl X "range" := by rfl) (hs : starEach [a] X.env = [(false, eval a X.env)] := by rfl) : IterX X tg (.Call (.Name "range" p) [a] [] pos) Γ j.toNat (fun i => .int i) Γ1 :=
  ⟨_, pi_range1 hg hm wa_pa hs, fun F σ H S R' R q => h F σ H S _ R fun vs H1 S1 R1 s1 ok => ⟨j, by obtain ⟨v, r, rfl, rfl, e⟩ := ok; rw [show r = [] from e], h1, h2, q _ H1 S1 R1 s1 fun i H' sH => ⟨fun z => z, fun z => Nat.le_of_eq z.symm, fun x H2 hi y => .inl ⟨y.1, fun S' _ => by
    have e : x = .int (0 + (i : Nat)) := y.2
    rw [e]; show V.int _ = V.int _; rw [Int.zero_add]⟩⟩⟩⟩
theorem it_range2 {l j : Int} (hm : X.mg "range" = none) (h : AX X Γ [a, b] [.int l, .int j] Γ1) (h1 : -(2 ^ 62) ≤ l ∧ l < 2 ^ 62 ∧ -(2 ^ 62) ≤ j ∧ j < 2 ^ 62) (hg : Gl X "range" := by rfl) (hs : starEach [a, b] X.env = [(false, eval a X.env), (false, eval b X.env)] := by rfl) (hs2 : starEach [b] X.env = [(false, eval b X.env)] := by rfl) : IterX X tg (.Call (.Name "range" p) [a, b] [] pos) Γ (j - l).toNat (fun i => .int (l + (i : Nat))) Γ1 :=
  ⟨_, pi_range2 hg hm wa_pa hs hs2, fun F σ H S R' R q => h F σ H S _ R fun vs H1 S1 R1 s1 ok => ⟨l, j, by obtain ⟨v, r, rfl, rfl, w, r2, rfl, rfl, e⟩ := ok; rw [show r2 = [] from e], h1, q _ H1 S1 R1 s1 fun i H' sH => ⟨fun z => z, fun z => Nat.le_of_eq z.symm, fun x H2 hi y => .inl ⟨y.1, fun S' _ => y.2⟩⟩⟩⟩
theorem it_range3 {l j st : Int} (hm : X.mg "range" = none) (h : AX X Γ [a, b, c] [.int l, .int j, .int st] Γ1) (h1 : RgC l j st n) (hg : Gl X "range" := by rfl) (hs : starEach [a, b, c] X.env = (false, eval a X.env) :: starEach [b, c] X.env := by rfl) (hpl : (backTo pos (starEach [b, c] X.env)).any (·.1) = false := by rfl) : IterX X tg (.Call (.Name "range" p) [a, b, c] [] pos) Γ n (fun i => .int (l + (i : Nat) * st)) Γ1 :=
  ⟨_, pi_range3 hg hm wa_pa hs hpl, fun F σ H S R' R q => h F σ H S _ R fun vs H1 S1 R1 s1 ok => ⟨l, j, st, n, by obtain ⟨v, r, rfl, rfl, w, r2, rfl, rfl, w2, r3, rfl, rfl, e⟩ := ok; rw [show r3 = [] from e], h1, q _ H1 S1 R1 s1 fun i H' sH => ⟨fun z => z, fun z => Nat.le_of_eq z.symm, fun x H2 hi y => .inl ⟨y.1, fun S' _ => y.2⟩⟩⟩⟩
/-- the items of a list of data -/
def itd (ds : List D) : Nat → D := fun i => ds.getD i .non
theorem itd_rep {K : PySem.W.Frag} {S : Hp} {vs : List V} {i : Nat} {x : V} (r : Reps K S ds vs) (e : vs[i]? = some x) : Rep K S (itd ds i) x := by
  obtain ⟨d, e1, e2⟩ := r.get' e
  unfold itd
  rw [List.getD_eq_getElem?_getD, e1]
  exact e2
theorem walk_sqL {K : PySem.W.Frag} {S : Hp} {l : Addr} {vs : List V} (hs : SqL K S l vs) (r : Reps K S ds vs) (inj : ∀ H ys zs, Same S H → SqL K H l ys → SqL K H l zs → ys = zs) : Walk K (Itl K l) ds.length (itd ds) S := fun i H sH => by
  have hq := sH.seq hs
  refine ⟨fun hi => ?_, fun hi => ⟨vs, hq, by rw [← r.length, hi]; exact Nat.le_refl _⟩, fun x H' hi y => .inl ⟨y.1, fun S' sS => ?_⟩⟩
  · have h2 : i < vs.length := by rw [← r.length]; exact hi
    exact ⟨vs, vs[i], hq, List.getElem?_eq_getElem h2⟩
  · exact Rep.mono sS _ _ (itd_rep r (y.2 vs hq))
theorem it_list (h : EX X Γ e (.sh (.lst ds)) Γ1) : IterX X tg e Γ ds.length (itd ds) Γ1 :=
  ⟨_, pi_list we_pe, fun F σ H S R' R q => h F σ H S _ R fun v H1 S1 R1 s1 ok => by
    obtain ⟨l, vs, rfl, h1, h2⟩ := ok
    refine ⟨l, rfl, ⟨vs, .of (R1.sh _ _ h1)⟩, q _ H1 S1 R1 s1 fun i H' sH => ?_⟩
    have hq : SqL X.K H' l vs := .of (sH _ _ h1)
    refine ⟨fun hi => ⟨vs, vs[i]'(by rw [← h2.length]; exact hi), hq, List.getElem?_eq_getElem _⟩, fun hi => ⟨vs, hq, by rw [← h2.length, hi]; exact Nat.le_refl _⟩, fun x H2 hi y => .inl ⟨y.1, fun S' sS => Rep.mono sS _ _ (itd_rep h2 (y.2 vs hq))⟩⟩⟩
theorem it_fls (h : EX X Γ e (.sh (.fls ds)) Γ1) : IterX X tg e Γ ds.length (itd ds) Γ1 :=
  ⟨_, pi_list we_pe, fun F σ H S R' R q => h F σ H S _ R fun v H1 S1 R1 s1 ok => by
    obtain ⟨l, vs, rfl, h1, h2⟩ := ok
    refine ⟨l, rfl, ⟨vs, R1.sh.seq h1⟩, q _ H1 S1 R1 s1 fun i H' sH => ?_⟩
    have hq : SqL X.K H' l vs := sH.seq h1
    refine ⟨fun hi => ⟨vs, vs[i]'(by rw [← h2.length]; exact hi), hq, List.getElem?_eq_getElem _⟩, fun hi => ⟨vs, hq, by rw [← h2.length, hi]; exact Nat.le_refl _⟩, fun x H2 hi y => .inl ⟨y.1, fun S' sS => Rep.mono sS _ _ (itd_rep h2 (y.2 vs hq))⟩⟩⟩
theorem it_tup (h : EX X Γ e (.sh (.tup ds)) Γ1) : IterX X tg e Γ ds.length (itd ds) Γ1 :=
  ⟨_, pi_tup we_pe, fun F σ H S R' R q => h F σ H S _ R fun v H1 S1 R1 s1 ok => by
    obtain ⟨l, vs, rfl, h1, h2⟩ := ok
    refine ⟨l, rfl, ⟨vs, same_sqt R1.sh h1⟩, q _ H1 S1 R1 s1 fun i H' sH => ?_⟩
    have hq : SqT X.K H' l vs := same_sqt sH h1
    refine ⟨fun hi => ⟨vs, vs[i]'(by rw [← h2.length]; exact hi), hq, List.getElem?_eq_getElem _⟩, fun hi => ⟨vs, hq, by rw [← h2.length, hi]; exact Nat.le_refl _⟩, fun x H2 hi y => .inl ⟨y.1, fun S' sS => Rep.mono sS _ _ (itd_rep h2 (y.2 vs hq))⟩⟩⟩
def sgn (x : Str) (i : Nat) : Str := ⟨#[x.cps.getD i 0]⟩
theorem it_str {x : Str} (h : EX X Γ e (.sh (.str x)) Γ1) : IterX X tg e Γ x.cps.size (fun i => .str (sgn x i)) Γ1 :=
  ⟨_, pi_str we_pe, fun F σ H S R' R q => h F σ H S _ R fun v H1 S1 R1 s1 ok => ⟨x, ok, q _ H1 S1 R1 s1 fun i H' sH => ⟨fun z => z, fun z => Nat.le_of_eq z.symm, fun y H2 hi yl => .inl ⟨yl.1, fun S' _ => by
    obtain ⟨_, cc, e1, e2⟩ := yl
    rw [e2]
    show V.str _ = V.str _
    unfold sgn
    rw [Array.getD_eq_getD_getElem?, e1]
    rfl⟩⟩⟩⟩
end
end PL

set_option Elab.async false
set_option linter.all false
set_option maxRecDepth 100000
set_option maxHeartbeats 1000000
namespace PL
open PySem PySem.Spec PyProof.Rows L2
theorem wipe_get {σ : L2.St} {j : Nat} : ∀ {vs : List Nat}, (wipe σ vs)[j]? = if j ∈ vs then (if j < σ.length then some none else none) else σ[j]?
  | [] => by rw [if_neg (by simp)]; rfl
  | i :: vs => by
    by_cases h : j ∈ i :: vs
    · rw [if_pos h]
      cases q : (wipe σ (i :: vs))[j]? with
      | none =>
        have := List.getElem?_eq_none_iff.mp q
        rw [wipe_length] at this
        rw [if_neg (by omega)]
      | some y =>
        have hl : j < σ.length := by
          have := (List.getElem?_eq_some_iff.mp q).1
          rw [wipe_length] at this
          exact this
        rw [if_pos hl]
        cases y with
        | none => rfl
        | some v => exact absurd h (wipe_some q).2
    · rw [if_neg h]
      exact wipe_out h
theorem wipe_set {σ : L2.St} {vs : List Nat} {i : Nat} {x : Option V} (h : i ∈ vs) : wipe (σ.set i x) vs = wipe σ vs := by
  refine List.ext_getElem? fun j => ?_
  rw [wipe_get, wipe_get, List.length_set]
  by_cases hj : j ∈ vs
  · rw [if_pos hj, if_pos hj]
  · rw [if_neg hj, if_neg hj, List.getElem?_set_ne (fun e : i = j => hj (e ▸ h))]
theorem wipe_wipe {σ : L2.St} {vs : List Nat} : wipe (wipe σ vs) vs = wipe σ vs := by
  refine List.ext_getElem? fun j => ?_
  rw [wipe_get, wipe_length]
  by_cases hj : j ∈ vs
  · rw [if_pos hj, wipe_get, if_pos hj]
  · rw [if_neg hj]
section
variable {K : PySem.W.Frag} {F : Fr} {Γ : Gm} {σ : L2.St} {H S : Hp} {vs : List Nat}
def UnAt (Γ : Gm) (vs : List Nat) : Prop := ∀ i, i ∈ vs → ∀ s, Γ[i]? = some s → s = .un
theorem ownAt_wipe {i : Nat} {a : Addr} (u : UnAt Γ vs) : OwnAt Γ (wipe σ vs) i a ↔ OwnAt Γ σ i a := by
  constructor
  · rintro ⟨h, q⟩
    refine ⟨h, ?_⟩
    exact (wipe_some q).1
  · rintro ⟨h, q⟩
    refine ⟨h, ?_⟩
    have ni : i ∉ vs := fun hi => by
      rcases h with ⟨o, z⟩ | ⟨p, o, z⟩
      · cases u i hi _ z
      · cases u i hi _ z
    rw [wipe_get, if_neg ni]
    exact q
theorem RS.wipe (R : RS K F Γ σ H S) (u : UnAt Γ vs) : RS K F Γ (L2.wipe σ vs) H S := by
  refine ⟨R.s0, R.sh, R.new, R.kp, R.th, fun i s e => ?_, fun i j a n x y => R.ne i j a n ((ownAt_wipe u).mp x) ((ownAt_wipe u).mp y), by rw [wipe_length]; exact R.len⟩
  by_cases hi : i ∈ vs
  · rw [u i hi s e]; trivial
  · rw [wipe_get, if_neg hi]
    exact R.sl i s e
theorem RS.unwipe (R : RS K F Γ (L2.wipe σ vs) H S) (u : UnAt Γ vs) : RS K F Γ σ H S := by
  refine ⟨R.s0, R.sh, R.new, R.kp, R.th, fun i s e => ?_, fun i j a n x y => R.ne i j a n ((ownAt_wipe u).mpr x) ((ownAt_wipe u).mpr y), by rw [← wipe_length σ vs]; exact R.len⟩
  by_cases hi : i ∈ vs
  · rw [u i hi s e]; trivial
  · have q := R.sl i s e
    rw [wipe_get, if_neg hi] at q
    exact q
/-- an object that is neither shared nor owned is changed -/
theorem RS.other (R : RS K F Γ σ H S) {p : Addr} {x : HO} (n : S p = none) (n0 : F.H0 p = none) (no : ¬ Own Γ σ p) : RS K F Γ σ (upd H p x) S := by
  refine ⟨R.s0, fun b u e => ?_, R.new, fun b u nb e => ?_, fun b u e => ?_, fun j t e => ?_, R.ne, R.len⟩
  · rw [upd_ne (fun hb : b = p => by rw [hb, n] at e; cases e)]
    exact R.sh b u e
  · rw [upd_ne (fun hb : b = p => by rw [hb, n0] at e; cases e)]
    exact R.kp b u nb e
  · rw [upd_ne (fun hb : b = p => by rw [hb, n0] at e; cases e)]
    exact R.th b u e
  · have w := R.sl j t e
    have kept : ∀ b, OwnAt Γ σ j b → ∀ u, H b = some u → (upd H p x) b = some u := fun b ob u z => by
      rw [upd_ne (fun hb : b = p => no ⟨j, by rw [← hb]; exact ob⟩)]
      exact z
    cases t with
    | un => trivial
    | sh d => exact w
    | ow o2 => obtain ⟨b, e1, e2, e3, e4⟩ := w; exact ⟨b, e1, e2, e3, e4.mono (.refl _) (kept b ⟨.inl ⟨o2, e⟩, e1⟩)⟩
    | pr p2 o2 => obtain ⟨e1, e2, e3, e4⟩ := w; exact ⟨e1, e2, e3, e4.mono (.refl _) (kept p2 ⟨.inr ⟨p2, o2, e⟩, e1⟩)⟩
end
/-- a comprehension's block -/
abbrev bk (X : Cx) (scope : Scope) (s : Shared) (H : Hp) (C : Addr) (cl : List (Str × Addr)) (fp : List Addr) : Cx := X.blk s H scope (compEnvC scope cl C X.env) fp
theorem Gd.blk {k : Nat} {X : Cx} (g : Gd k X) {scope : Scope} {s : Shared} {H : Hp} {C : Addr} {cl : List (Str × Addr)} {fp : List Addr} : Gd k (bk X scope s H C cl fp) := ⟨g.calm, g.nd, PassesOwn.never, g.rm⟩
/-- what a comprehension's target does: its reading, the slots, the state behind it -/
structure Tgt (g : TG) (K : PySem.W.Frag) (vs : List Nat) (Γ : Gm) (d : D) (Γ' : Gm) : Prop where
  run : ∀ F σ H S v (Q : L2.St → Hp → Prop), RS K F Γ σ H S → Rep K S d v → (∀ σ', L2.wipe σ' vs = L2.wipe σ vs → RS K F Γ' σ' H S → Q σ' H) → g v σ H Q
theorem tgt_name {K : PySem.W.Frag} {vs : List Nat} {Γ : Gm} {d : D} (i : Nat) (hi : i ∈ vs) (hl : i < Γ.length) : Tgt (gName i) K vs Γ d (Γ.set i (.sh d)) :=
  ⟨fun F σ H S v Q R ok q => q _ (wipe_set hi) (R.put (r := .sh d) hl ok (fun _ z => by cases z))⟩
theorem tgt_two {K : PySem.W.Frag} {vs : List Nat} {Γ : Gm} {d1 d2 : D} (i j : Nat) (hi : i ∈ vs) (hj : j ∈ vs) (hl : i < Γ.length) (hl2 : j < Γ.length) : Tgt (gTup K 2 (gCons (gName i) (gCons (gName j) gNil))) K vs Γ (.tup [d1, d2]) ((Γ.set i (.sh d1)).set j (.sh d2)) :=
  ⟨fun F σ H S v Q R ok q => by
    obtain ⟨p, us, rfl, h1, h2⟩ := ok
    obtain ⟨v1, r1, rfl, o1, v2, r2, rfl, o2, o3⟩ := h2
    obtain rfl : r2 = [] := o3
    refine ⟨p, _, rfl, same_sqt R.sh h1, rfl, v1, _, rfl, v2, _, rfl, rfl, q _ ?_ ?_⟩
    · rw [wipe_set hj, wipe_set hi]
    · exact (R.put (r := .sh d1) hl o1 (fun _ z => by cases z)).put (r := .sh d2) (by rw [List.length_set]; exact hl2) o2 (fun _ z => by cases z)⟩
section
variable {X : Cx} {Γ Γ1 : Gm} {tg iter elt : Ex} {ifs : List Ex} {scope : Scope} {own : List (Str × Nat)} {pos : Pos} {n k : Nat} {it f : Nat → D} {t : Nat → Bool} {g : TG}
/-- the items taken up to turn j -/
def took (t : Nat → Bool) (f : Nat → D) (j : Nat) : List D := ((List.range j).filter t).map f
theorem took_succ {j : Nat} : took t f (j + 1) = if t j = true then took t f j ++ [f j] else took t f j := by
  unfold took
  rw [List.range_succ, List.filter_append, List.map_append]
  by_cases h : t j = true
  · rw [if_pos h, List.filter_cons_of_pos h]; rfl
  · rw [if_neg h, List.filter_cons_of_neg h]; exact List.append_nil _
theorem took_len {j : Nat} : (took t f j).length ≤ j := by
  unfold took
  rw [List.length_map]
  exact Nat.le_trans (List.length_filter_le _ _) (by rw [List.length_range]; exact Nat.le_refl _)
theorem lc_read {wi : TI} {tt : TT} {te : TE} {vs : List Nat} (G B Bt Be : Nat → Gm) (hn : n ≤ sizeLine)
    (hq : ∀ F σ H S (R' : It → Hp → Prop), RS X.K F Γ σ H S → (∀ J H1 S1, RS X.K F Γ1 σ H1 S1 → Same S S1 → Walk X.K J n it S1 → R' J H1) → wi σ H R') (h0 : Cv X.K Γ1 (G 0)) (hu : ∀ j, j ≤ n → UnAt (G j) vs)
    (hg : ∀ j, j < n → Tgt g X.K vs (G j) (it j) (B j))
    (ht : ∀ j, j < n → ∀ F σ H S (Q : Bool → Hp → Prop), RS X.K F (B j) σ H S → (∀ H' S', RS X.K F (Bt j) σ H' S' → Same S S' → Q (t j) H') → tt σ H Q)
    (he : ∀ j, j < n → t j = true → ∀ F σ H S (Q : VK), RS X.K F (Bt j) σ H S → (∀ v H' S', RS X.K F (Be j) σ H' S' → Same S S' → Rep X.K S' (f j) v → Q v H') → te σ H Q)
    (hT : ∀ j, j < n → t j = true → Cv X.K (Be j) (G (j + 1))) (hF : ∀ j, j < n → t j = false → Cv X.K (Bt j) (G (j + 1)))
    {F : Fr} {σ : L2.St} {H S : Hp} {Q : VK} (R : RS X.K F Γ σ H S) (q : ∀ v H' S', RS X.K F (G n) σ H' S' → Same S S' → RsOk X.K F (G n) σ H' S' (.ow (.lst (took t f n))) v → Q v H') : tLc wi g tt te vs σ H Q := by
  refine hq F σ H S _ R fun J H1 S1 R1 s1 w => ?_
  intro Dd nD
  obtain ⟨S2, s2, R2⟩ := h0 F σ H1 S1 R1
  have R3 : RS X.K F (G 0) (L2.wipe σ vs) (upd H1 Dd (.lst [])) S2 := (R2.grow (same_upd nD)).wipe (hu 0 (Nat.zero_le _))
  have nD0 : F.H0 Dd = none := R2.h0None nD
  refine ⟨fun i m H' => m = n - i ∧ i ≤ n ∧ ∃ S' acc, RS X.K F (G i) (L2.wipe σ vs) H' S' ∧ Same S2 S' ∧ H' Dd = some (.lst acc) ∧ S' Dd = none ∧ ¬ Own (G i) (L2.wipe σ vs) Dd ∧ Reps X.K S' (took t f i) acc,
    ⟨n, rfl, Nat.zero_le _, S2, [], R3, .refl _, upd_same, R2.sNone nD, fun ow => ?_, rfl⟩, ?_⟩
  · obtain ⟨i, oi⟩ := ow
    exact R2.ownNone nD ⟨i, (ownAt_wipe (hu 0 (Nat.zero_le _))).mp oi⟩
  rintro i m H' ⟨rfl, hi, S', acc, R', s', hD, nS, nO, rp⟩
  have sS : Same S1 S' := s2.trans s'
  by_cases hlt : i < n
  · refine .inr ⟨(w i H' (sS.trans R'.sh)).1 hlt, fun H2 => ∃ S3 acc', RS X.K F (G (i + 1)) (L2.wipe σ vs) H2 S3 ∧ Same S2 S3 ∧ H2 Dd = some (.lst acc') ∧ S3 Dd = none ∧ ¬ Own (G (i + 1)) (L2.wipe σ vs) Dd ∧ Reps X.K S3 (took t f (i + 1)) acc', fun H2 h => ⟨n - (i + 1), by omega, rfl, hlt, h⟩, fun x H2 y => ?_⟩
    -- the frame of this very turn: what stands at Dd is kept
    have Rb := R'.rebase
    obtain ⟨S3, s3, R4, rx⟩ := w.take Rb sS hlt y
    refine (hg i hlt).run _ _ H2 S3 x _ R4 rx fun σ4 hw4 R5 => ⟨?_, ?_⟩
    · rw [hw4, wipe_wipe]
    refine ht i hlt _ σ4 H2 S3 _ R5 fun H6 S6 R6 s6 => ?_
    have fin : ∀ {Γx : Gm} {H7 S7 : Hp}, RS X.K (.here (G i) (L2.wipe σ vs) H' S') Γx σ4 H7 S7 → Cv X.K Γx (G (i + 1)) → ∃ S8, Same S7 S8 ∧ RS X.K F (G (i + 1)) (L2.wipe σ vs) H7 S8 ∧ H7 Dd = some (.lst acc) ∧ S8 Dd = none ∧ ¬ Own (G (i + 1)) (L2.wipe σ vs) Dd := fun {Γx H7 S7} R7 cv => by
      obtain ⟨S8, s8, R8⟩ := cv _ σ4 H7 S7 R7
      have k7 : H7 Dd = some (.lst acc) := R8.kp Dd _ nO hD
      have n8 : S8 Dd = none := R8.new Dd _ hD nO nS
      have o8 : ¬ Own (G (i + 1)) σ4 Dd := fun ⟨l, ol⟩ => by
        rcases (R8.own ol).2.1 with z | z
        · have z' : H' Dd = none := z
          rw [hD] at z'; cases z'
        · exact nO z
      have R9 := R'.back R8
      have R10 : RS X.K F (G (i + 1)) (L2.wipe σ vs) H7 S8 := by
        have z := R9.wipe (vs := vs) (hu (i + 1) hlt)
        rw [hw4, wipe_wipe] at z
        exact z
      refine ⟨S8, s8, R10, k7, n8, fun ⟨l, ol⟩ => o8 ⟨l, ?_⟩⟩
      have z := (ownAt_wipe (σ := σ4) (hu (i + 1) hlt)).mp (by rw [hw4, wipe_wipe]; exact ol)
      exact z
    cases hti : t i with
    | false =>
      refine iteF ?_
      obtain ⟨S8, s8, R8, k8, n8, o8⟩ := fin R6 (hF i hlt hti)
      refine ⟨S8, acc, R8, ((s'.trans s3).trans s6).trans s8, k8, n8, o8, ?_⟩
      rw [took_succ, if_neg (by rw [hti]; decide)]
      exact Reps.mono ((s3.trans s6).trans s8) _ _ rp
    | true =>
      refine iteT (he i hlt hti _ σ4 H6 S6 _ R6 fun v H7 S7 R7 s7 rv => ?_)
      obtain ⟨S8, s8, R8, k8, n8, o8⟩ := fin R7 (hT i hlt hti)
      have al : acc.length < sizeLine := by
        rw [← rp.length]
        exact Nat.lt_of_le_of_lt took_len (Nat.lt_of_lt_of_le hlt hn)
      refine ⟨acc, k8, al, S8, acc ++ [v], R8.other n8 nD0 o8, (((s'.trans s3).trans s6).trans s7).trans s8, upd_same, n8, o8, ?_⟩
      rw [took_succ, if_pos hti]
      exact (Reps.mono (((s3.trans s6).trans s7).trans s8) _ _ rp).append (.one (Rep.mono s8 _ _ rv))
  · obtain rfl : i = n := by omega
    refine .inl ⟨(w i H' (sS.trans R'.sh)).2.1 rfl, q _ H' S' (R'.unwipe (hu i (Nat.le_refl _))) ((s1.trans s2).trans s') ⟨Dd, rfl, nS, nD0, ⟨acc, hD, rp⟩, fun ⟨l, ol⟩ => nO ⟨l, (ownAt_wipe (hu i (Nat.le_refl _))).mpr ol⟩⟩⟩
/-- what a comprehension does, turn by turn -/
structure LcX (X : Cx) (Γ : Gm) (tg iter : Ex) (ifs : List Ex) (elt : Ex) (scope : Scope) (own : List (Str × Nat)) (n : Nat) (t : Nat → Bool) (f : Nat → D) (Γ' : Gm) : Prop where
  run : ∃ (it : Nat → D) (Γ1 : Gm) (g : TG) (G B Bt Be : Nat → Gm), n ≤ sizeLine ∧ IterX X tg iter Γ n it Γ1 ∧ BlkOk X.N X.env.scope scope own ∧ Cv X.K Γ1 (G 0) ∧ (∀ j, j ≤ n → UnAt (G j) (own.map (·.2))) ∧
    (∀ s H C cl fp, PG (bk X scope s H C cl fp) tg g) ∧ (∀ j, j < n → Tgt g X.K (own.map (·.2)) (G j) (it j) (B j)) ∧
    ((ifs = [] ∧ (∀ j, t j = true) ∧ Bt = B) ∨ ∃ c, ifs = [c] ∧ ∀ j, j < n → ∀ s H C cl fp, TX (bk X scope s H C cl fp) (B j) c (t j) (Bt j)) ∧
    (∀ j, j < n → t j = true → ∀ s H C cl fp, EX (bk X scope s H C cl fp) (Bt j) elt (.sh (f j)) (Be j)) ∧ (∀ j, j < n → t j = true → Cv X.K (Be j) (G (j + 1))) ∧ (∀ j, j < n → t j = false → Cv X.K (Bt j) (G (j + 1))) ∧ Γ' = G n
def teC (X : Cx) (scope : Scope) (elt : Ex) : TE := fun σ H Q => ∀ s H' C cl fp, WE (bk X scope s H' C cl fp) elt σ H Q
def ttC (X : Cx) (scope : Scope) (c : Ex) : TT := fun σ H Q => ∀ s H' C cl fp, WT (bk X scope s H' C cl fp) c σ H Q
theorem LcX.reads {Γ' : Gm} (h : LcX X Γ tg iter ifs elt scope own n t f Γ') : ∃ wi g tt, PI X tg iter wi ∧ BlkOk X.N X.env.scope scope own ∧ (∀ s H C cl fp, PG (bk X scope s H C cl fp) tg g) ∧ (∀ s H C cl fp, PTs (bk X scope s H C cl fp) ifs tt) ∧ (∀ s H C cl fp, PE (bk X scope s H C cl fp) elt (teC X scope elt)) ∧
    ∀ F σ H S (Q : VK), RS X.K F Γ σ H S → (∀ v H' S', RS X.K F Γ' σ H' S' → Same S S' → RsOk X.K F Γ' σ H' S' (.ow (.lst (took t f n))) v → Q v H') → tLc wi g tt (teC X scope elt) (own.map (·.2)) σ H Q := by
  obtain ⟨it, Γ1, g, G, B, Bt, Be, hn, ⟨wi, hw, hq⟩, hbk, h0, hu, hpg, hg, hif, he, hT, hF, rfl⟩ := h.run
  have pe : ∀ s H C cl fp, PE (bk X scope s H C cl fp) elt (teC X scope elt) := fun s H C cl fp => ⟨fun pins s1 σ H1 Q I h => h s H C cl fp pins s1 I⟩
  have eh : ∀ j, j < n → t j = true → ∀ F σ H S (Q : VK), RS X.K F (Bt j) σ H S → (∀ v H' S', RS X.K F (Be j) σ H' S' → Same S S' → Rep X.K S' (f j) v → Q v H') → teC X scope elt σ H Q := fun j hj tj F σ H S Q R q s H' C cl fp => he j hj tj s H' C cl fp F σ H S Q R q
  rcases hif with ⟨rfl, ht, rfl⟩ | ⟨c, rfl, ht⟩
  · refine ⟨wi, g, tYes, hw, hbk, hpg, fun _ _ _ _ _ => pts_nil, pe, fun F σ H S Q R q => lc_read G Bt Bt Be hn hq h0 hu hg (fun j hj F σ H S Q R q => ?_) eh hT hF R q⟩
    have z := q H S R (.refl _)
    rw [ht j] at z
    exact z
  · exact ⟨wi, g, ttC X scope c, hw, hbk, hpg, fun s H C cl fp => pts_one ⟨fun pins s1 σ H1 Q I h => h s H C cl fp pins s1 I⟩, pe, fun F σ H S Q R q => lc_read G B Bt Be hn hq h0 hu hg (fun j hj F σ H S Q R q s H' C cl fp => ht j hj s H' C cl fp F σ H S Q R q) eh hT hF R q⟩
theorem e_lc {Γ' : Gm} (gd : Gd k X) (h : LcX X Γ tg iter ifs elt scope own n t f Γ') (hs : ∀ x, foldedSetIterable iter X.env x = pure x := by intro _; rfl) : EX X Γ (.ListComp elt [⟨tg, iter, ifs, 0⟩] scope pos) (.ow (.lst (took t f n))) Γ' := fun F σ H S Q R q => by
  obtain ⟨wi, g, tt, hw, hbk, hpg, hpt, hpe, hq⟩ := h.reads
  exact pe_we (pe_lc gd.calm gd.nd hw hbk hpg hpt hpe hs) (hq F σ H S Q R q)
theorem s1_setLc {Γ' : Gm} (i : Nat) {y : Str} {py spos : Pos} (gd : Gd k X) (h : LcX X Γ tg iter ifs elt scope own n t f Γ') (hl : i < Γ'.length := by exact Nat.le_of_ble_eq_true rfl) (hy : X.N[i]? = some y := by rfl) (hyl : X.env.scope.names.lookup y = some .local := by rfl)
    (hsw : swapsWith (.ListComp elt [⟨tg, iter, ifs, 0⟩] scope pos) (some (.Name y py)) spos.line X.env = pure true := by exact sw_true rfl rfl rfl (by decide +kernel)) (hs : ∀ x, foldedSetIterable iter X.env x = pure x := by intro _; rfl) : S1 X Γ (.Assign [.Name y py] (.ListComp elt [⟨tg, iter, ifs, 0⟩] scope pos) spos) (.nx (Γ'.set i (.ow (.lst (took t f n))))) := fun F σ H S D R q => by
  obtain ⟨wi, g, tt, hw, hbk, hpg, hpt, hpe, hq⟩ := h.reads
  exact ps_w1 (ps_setLc gd.calm gd.nd hy hyl hsw hw hbk hpg hpt hpe hs) (hq F σ H S _ R fun v H1 S1 R1 s1 ok => q _ H1 S1 (R1.put hl ok (fun _ z => by cases z)) s1)
end
end PL

set_option Elab.async false
set_option linter.all false
set_option maxRecDepth 100000
set_option maxHeartbeats 1000000
namespace PL
open PySem PySem.Spec PyProof.Rows L2
section
variable {X : Cx} {d d1 d2 : D}
theorem ops_sc {f : Value → Value → Sem Value} {rr : R2} (h : OpR X f rr) (v : V) (hv : ∀ S, Rep X.K S d v) (hd : ∀ H S x y (Q : VK), Same S H → Rep X.K S d1 x → Rep X.K S d2 y → Q v H → rr x y H Q) : OpS X f d1 d2 (.sh d) :=
  ⟨rr, h, fun Γ F σ H S x y Q R r1 r2 q => hd H S x y Q R.sh r1 r2 (q v H S R (.refl _) (hv S))⟩
variable {i j : Int} {a b : Str}
theorem o_addI : OpS X (binaryOp .Add) (.int i) (.int j) (.sh (.int (i + j))) := ops_sc op_add (.int (i + j)) (fun _ => rfl) fun H S x y Q _ r1 r2 q => ⟨i, j, r1, r2, q⟩
theorem o_subI : OpS X (binaryOp .Sub) (.int i) (.int j) (.sh (.int (i - j))) := ops_sc op_sub (.int (i - j)) (fun _ => rfl) fun H S x y Q _ r1 r2 q => ⟨i, j, r1, r2, q⟩
theorem o_mulI (hc : CMul i j) : OpS X (binaryOp .Mult) (.int i) (.int j) (.sh (.int (i * j))) := ops_sc op_mul (.int (i * j)) (fun _ => rfl) fun H S x y Q _ r1 r2 q => ⟨i, j, r1, r2, hc, q⟩
theorem o_mulW (hc : CMulW i j) : OpS X (binaryOp .Mult) (.int i) (.int j) (.sh (.int (i * j))) := ops_sc op_mulW (.int (i * j)) (fun _ => rfl) fun H S x y Q _ r1 r2 q => ⟨i, j, r1, r2, hc, q⟩
theorem o_mod (hc : 0 < j) : OpS X (binaryOp .Mod) (.int i) (.int j) (.sh (.int (i % j))) := ops_sc op_mod (.int (i % j)) (fun _ => rfl) fun H S x y Q _ r1 r2 q => ⟨i, j, r1, r2, hc, q⟩
theorem o_fdiv (hc : CDiv i j) : OpS X (binaryOp .FloorDiv) (.int i) (.int j) (.sh (.int (i / j))) := ops_sc op_fdiv (.int (i / j)) (fun _ => rfl) fun H S x y Q _ r1 r2 q => ⟨i, j, r1, r2, hc, q⟩
theorem o_fdivW (hc : CDivW i j) : OpS X (binaryOp .FloorDiv) (.int i) (.int j) (.sh (.int (i / j))) := ops_sc op_fdivW (.int (i / j)) (fun _ => rfl) fun H S x y Q _ r1 r2 q => ⟨i, j, r1, r2, hc, q⟩
theorem o_pow (hc : CPow i j) : OpS X (binaryOp .Pow) (.int i) (.int j) (.sh (.int (i ^ j.toNat))) := ops_sc op_pow (.int (i ^ j.toNat)) (fun _ => rfl) fun H S x y Q _ r1 r2 q => ⟨i, j, r1, r2, hc, q⟩
theorem o_addS (hl : a.length + b.length ≤ sizeLine) : OpS X (binaryOp .Add) (.str a) (.str b) (.sh (.str (a ++ b))) := ops_sc op_add_str (.str (a ++ b)) (fun _ => rfl) fun H S x y Q _ r1 r2 q => ⟨a, b, r1, r2, hl, q⟩
theorem o_lt : OpS X (compareOp .Lt) (.int i) (.int j) (.sh (.bl (decide (i < j)))) := ops_sc op_lt (.bl _) (fun _ => rfl) fun H S x y Q _ r1 r2 q => ⟨i, j, r1, r2, q⟩
theorem o_le : OpS X (compareOp .LtE) (.int i) (.int j) (.sh (.bl (decide (i ≤ j)))) := ops_sc op_le (.bl _) (fun _ => rfl) fun H S x y Q _ r1 r2 q => ⟨i, j, r1, r2, q⟩
theorem o_gt : OpS X (compareOp .Gt) (.int i) (.int j) (.sh (.bl (decide (j < i)))) := ops_sc op_gt (.bl _) (fun _ => rfl) fun H S x y Q _ r1 r2 q => ⟨i, j, r1, r2, q⟩
theorem o_ge : OpS X (compareOp .GtE) (.int i) (.int j) (.sh (.bl (decide (j ≤ i)))) := ops_sc op_ge (.bl _) (fun _ => rfl) fun H S x y Q _ r1 r2 q => ⟨i, j, r1, r2, q⟩
theorem o_eqI : OpS X (compareOp .Eq) (.int i) (.int j) (.sh (.bl (decide (i = j)))) := ops_sc op_eq (.bl _) (fun _ => rfl) fun H S x y Q _ r1 r2 q => by
  obtain rfl : x = .int i := r1
  obtain rfl : y = .int j := r2
  exact ⟨rfl, by simpa [V.int.injEq] using q⟩
theorem o_neI : OpS X (compareOp .NotEq) (.int i) (.int j) (.sh (.bl (!decide (i = j)))) := ops_sc op_ne (.bl _) (fun _ => rfl) fun H S x y Q _ r1 r2 q => by
  obtain rfl : x = .int i := r1
  obtain rfl : y = .int j := r2
  exact ⟨rfl, by simpa [V.int.injEq] using q⟩
theorem o_eqS : OpS X (compareOp .Eq) (.str a) (.str b) (.sh (.bl (decide (a = b)))) := ops_sc op_eq (.bl _) (fun _ => rfl) fun H S x y Q _ r1 r2 q => by
  obtain rfl : x = .str a := r1
  obtain rfl : y = .str b := r2
  exact ⟨rfl, by simpa [V.str.injEq] using q⟩
theorem o_neS : OpS X (compareOp .NotEq) (.str a) (.str b) (.sh (.bl (!decide (a = b)))) := ops_sc op_ne (.bl _) (fun _ => rfl) fun H S x y Q _ r1 r2 q => by
  obtain rfl : x = .str a := r1
  obtain rfl : y = .str b := r2
  exact ⟨rfl, by simpa [V.str.injEq] using q⟩
def isNon : D → Bool
  | .non => true
  | _ => false
theorem rep_non {K : PySem.W.Frag} {S : Hp} {v : V} (hr : ∀ u, d ≠ .raw u) (r : Rep K S d v) : decide (v = .non) = isNon d := by
  cases d with
  | non => rw [show v = .non from r]; rfl
  | bl b => rw [show v = .bl b from r]; rfl
  | int b => rw [show v = .int b from r]; rfl
  | str b => rw [show v = .str b from r]; rfl
  | raw u => exact (hr u rfl).elim
  | tup ds => obtain ⟨p, vs, rfl, _⟩ := r; rfl
  | lst ds => obtain ⟨p, vs, rfl, _⟩ := r; rfl
  | fls ds => obtain ⟨p, vs, rfl, _⟩ := r; rfl
  | obj C ns ds => obtain ⟨p, dx, vs, rfl, _⟩ := r; rfl
  | dct ks ds => obtain ⟨p, vs, rfl, _⟩ := r; rfl
  | ext φ => obtain ⟨p, rfl, _⟩ := r; rfl
theorem o_isN (hr : ∀ u, d ≠ .raw u := by intro _ z; cases z) : OpS X (compareOp .Is) d .non (.sh (.bl (isNon d))) := ops_sc op_isN (.bl _) (fun _ => rfl) fun H S x y Q _ r1 r2 q => by
  refine ⟨r2, ?_⟩
  rw [rep_non hr r1]
  exact q
theorem o_notN (hr : ∀ u, d ≠ .raw u := by intro _ z; cases z) : OpS X (compareOp .IsNot) d .non (.sh (.bl (!isNon d))) := ops_sc op_notN (.bl _) (fun _ => rfl) fun H S x y Q _ r1 r2 q => by
  refine ⟨r2, ?_⟩
  rw [rep_non hr r1]
  exact q
theorem o_inSign {c : Nat} : OpS X (compareOp .In) (.str ⟨#[c]⟩) (.str b) (.sh (.bl (decide (c ∈ b.cps.toList)))) := ops_sc op_in_sign (.bl _) (fun _ => rfl) fun H S x y Q _ r1 r2 q => ⟨c, b, r1, r2, q⟩
/-! ### sequences -/
variable {ds es : List D}
theorem o_catT (hl : ds.length + es.length ≤ sizeLine) : OpS X (binaryOp .Add) (.tup ds) (.tup es) (.sh (.tup (ds ++ es))) := ⟨_, op_catA, fun Γ F σ H S x y Q R r1 r2 q => by
  obtain ⟨p, vs, rfl, h1, h2⟩ := id r1
  obtain ⟨p', us, rfl, h3, h4⟩ := id r2
  have l1 := h2.length
  have l2 := h4.length
  refine ⟨p, p', vs, us, rfl, rfl, same_sqt R.sh h1, same_sqt R.sh h3, by omega, fun e => ?_, fun _ e => ?_, fun _ _ l n => ?_⟩
  · subst e
    obtain rfl : ds = [] := List.eq_nil_of_length_eq_zero l1
    exact q _ H S R (.refl _) r2
  · subst e
    obtain rfl : es = [] := List.eq_nil_of_length_eq_zero l2
    rw [List.append_nil] at q
    exact q _ H S R (.refl _) r1
  · obtain ⟨R2, s2⟩ := R.laid (o := .tup (vs ++ us)) n
    exact q _ _ _ R2 s2 ⟨l, _, rfl, .of upd_same, Reps.mono s2 _ _ (h2.append h4)⟩⟩
theorem o_catL (hl : ds.length + es.length ≤ sizeLine) : OpS X (binaryOp .Add) (.lst ds) (.lst es) (.ow (.lst (ds ++ es))) := ⟨_, op_cat, fun Γ F σ H S x y Q R r1 r2 q => by
  obtain ⟨p, vs, rfl, h1, h2⟩ := r1
  obtain ⟨p', us, rfl, h3, h4⟩ := r2
  refine ⟨p, p', vs, us, rfl, rfl, R.sh _ _ h1, R.sh _ _ h3, by rw [← h2.length, ← h4.length]; exact hl, fun l n => q _ _ S (R.grow (same_upd n)) (.refl _) ⟨l, rfl, R.sNone n, R.h0None n, ⟨_, upd_same, h2.append h4⟩, R.ownNone n⟩⟩⟩
theorem o_repL {k : Int} (h1 : -(2 ^ 63) ≤ k) (h2 : k < 2 ^ 63) (hl : ds.length * k.toNat ≤ sizeLine) : OpS X (binaryOp .Mult) (.lst ds) (.int k) (.ow (.lst (List.replicate k.toNat ds).flatten)) := ⟨_, op_rep, fun Γ F σ H S x y Q R r1 r2 q => by
  obtain ⟨p, vs, rfl, h3, h4⟩ := r1
  refine ⟨p, k, vs, rfl, r2, R.sh _ _ h3, h1, h2, by rw [← h4.length]; exact hl, fun l n => q _ _ S (R.grow (same_upd n)) (.refl _) ⟨l, rfl, R.sNone n, R.h0None n, ⟨_, upd_same, h4.rep _⟩, R.ownNone n⟩⟩⟩
theorem o_repT {k : Int} (h0 : ds ≠ []) (h1 : 2 ≤ k) (h2 : k ≤ 1000) (hl : ds.length ≤ 1000) : OpS X (binaryOp .Mult) (.tup ds) (.int k) (.sh (.tup (List.replicate k.toNat ds).flatten)) := ⟨_, op_repT, fun Γ F σ H S x y Q R r1 r2 q => by
  obtain ⟨p, vs, rfl, h3, h4⟩ := r1
  have hl' := h4.length
  refine ⟨p, k, vs, rfl, r2, same_sqt R.sh h3, fun e => h0 (List.eq_nil_of_length_eq_zero (by rw [hl', e]; rfl)), h1, h2, by omega, fun l n => ?_⟩
  obtain ⟨R2, s2⟩ := R.laid (o := .tup (List.replicate k.toNat vs).flatten) n
  exact q _ _ _ R2 s2 ⟨l, _, rfl, .of upd_same, Reps.mono s2 _ _ (h4.rep _)⟩⟩
/-! ### items -/
theorem Reps.atI {K : PySem.W.Frag} {S : Hp} {vs : List V} (r : Reps K S ds vs) (h : L2.atI ds i = some d) : ∃ v, L2.atI vs i = some v ∧ Rep K S d v := by
  unfold L2.atI at h ⊢
  rw [← r.length]
  cases e : ixN ds.length i with
  | none => rw [e] at h; cases h
  | some k =>
    rw [e] at h
    exact r.get h
theorem i_list (h : atI ds i = some d) : IxS X (.lst ds) (.int i) (.sh d) := ⟨_, ix_list, fun Γ F σ H S x y Q R r1 r2 q => by
  obtain ⟨p, vs, rfl, h1, h2⟩ := r1
  obtain ⟨v, e1, e2⟩ := h2.atI h
  exact ⟨p, vs, i, v, rfl, r2, .of (R.sh _ _ h1), e1, q v H S R (.refl _) e2⟩⟩
theorem i_tup (h : atI ds i = some d) : IxS X (.tup ds) (.int i) (.sh d) := ⟨_, ix_tup, fun Γ F σ H S x y Q R r1 r2 q => by
  obtain ⟨p, vs, rfl, h1, h2⟩ := r1
  obtain ⟨v, e1, e2⟩ := h2.atI h
  exact ⟨p, vs, i, v, rfl, r2, same_sqt R.sh h1, e1, q v H S R (.refl _) e2⟩⟩
theorem i_str {c : Nat} (hl : a.length ≤ sizeLine) (h : atI a.cps.toList i = some c) : IxS X (.str a) (.int i) (.sh (.str ⟨#[c]⟩)) := ⟨_, ix_str, fun Γ F σ H S x y Q R r1 r2 q => ⟨a, i, c, r1, r2, hl, h, q _ H S R (.refl _) rfl⟩⟩
/-! ### slices -/
def cutL {α : Type} (xs : List α) (lo hi : Option Int) : List α := (xs.drop (HT.sIx xs.length 0 lo)).take (HT.sIx xs.length xs.length hi - HT.sIx xs.length 0 lo)
theorem Reps.cut {K : PySem.W.Frag} {S : Hp} {vs : List V} {lo hi : Option Int} (r : Reps K S ds vs) : Reps K S (cutL ds lo hi) (cutV vs lo hi) := by
  unfold cutL cutV
  rw [r.length]
  exact (r.drop _).take _
theorem l_list {lo hi : Option Int} : SlS X (.lst ds) lo hi (.ow (.lst (cutL ds lo hi))) := ⟨_, sl_list, fun Γ F σ H S x Q R r1 q => by
  obtain ⟨p, vs, rfl, h1, h2⟩ := r1
  exact ⟨p, vs, rfl, .of (R.sh _ _ h1), fun l n => q _ _ S (R.grow (same_upd n)) (.refl _) ⟨l, rfl, R.sNone n, R.h0None n, ⟨_, upd_same, h2.cut⟩, R.ownNone n⟩⟩⟩
theorem l_fls {lo hi : Option Int} : SlS X (.fls ds) lo hi (.ow (.lst (cutL ds lo hi))) := ⟨_, sl_list, fun Γ F σ H S x Q R r1 q => by
  obtain ⟨p, vs, rfl, h1, h2⟩ := r1
  exact ⟨p, vs, rfl, R.sh.seq h1, fun l n => q _ _ S (R.grow (same_upd n)) (.refl _) ⟨l, rfl, R.sNone n, R.h0None n, ⟨_, upd_same, h2.cut⟩, R.ownNone n⟩⟩⟩
theorem cutL_all {α : Type} {xs : List α} {lo hi : Option Int} (h : HT.sIx xs.length 0 lo = 0 ∧ HT.sIx xs.length xs.length hi = xs.length) : cutL xs lo hi = xs := by
  unfold cutL
  rw [h.1, h.2]
  simp
theorem l_tup {lo hi : Option Int} : SlS X (.tup ds) lo hi (.sh (.tup (cutL ds lo hi))) := ⟨_, sl_tupA, fun Γ F σ H S x Q R r1 q => by
  obtain ⟨p, vs, rfl, h1, h2⟩ := id r1
  have hl := h2.length
  refine ⟨p, vs, rfl, same_sqt R.sh h1, fun h => ?_, fun _ l n => ?_⟩
  · rw [← hl] at h
    rw [cutL_all h] at q
    exact q _ H S R (.refl _) r1
  · obtain ⟨R2, s2⟩ := R.laid (o := .tup (cutV vs lo hi)) n
    exact q _ _ _ R2 s2 ⟨l, _, rfl, .of upd_same, Reps.mono s2 _ _ h2.cut⟩⟩
theorem l_str {lo hi : Option Int} (hl : a.length ≤ sizeLine) : SlS X (.str a) lo hi (.sh (.str (cutS a lo hi))) := ⟨_, sl_str, fun Γ F σ H S x Q R r1 q => ⟨a, r1, hl, q _ H S R (.refl _) rfl⟩⟩
/-! ### calls -/
theorem calls_sc {f : Value} {rr : List V → Hp → VK → Prop} {xs : List D} (h : CallR X f rr) (v : V) (hv : ∀ S, Rep X.K S d v) (hd : ∀ H S vs (Q : VK), Same S H → Reps X.K S xs vs → Q v H → rr vs H Q) : CallS X f xs (.sh d) :=
  ⟨rr, h, fun Γ F σ H S vs Q R r q => hd H S vs Q R.sh r (q v H S R (.refl _) (hv S))⟩
theorem reps1 {K : PySem.W.Frag} {S : Hp} {vs : List V} (r : Reps K S [d] vs) : ∃ v, vs = [v] ∧ Rep K S d v := by
  obtain ⟨v, r, rfl, o1, o2⟩ := r
  exact ⟨v, by rw [show r = [] from o2], o1⟩
theorem reps2 {K : PySem.W.Frag} {S : Hp} {vs : List V} (r : Reps K S [d1, d2] vs) : ∃ v w, vs = [v, w] ∧ Rep K S d1 v ∧ Rep K S d2 w := by
  obtain ⟨v, r, rfl, o1, w, r2, rfl, o2, o3⟩ := r
  exact ⟨v, w, by rw [show r2 = [] from o3], o1, o2⟩
theorem c_lenL : CallS X (.builtin "len") [.lst ds] (.sh (.int ds.length)) := calls_sc call_len_seq (.int ds.length) (fun _ => rfl) fun H S vs Q s r q => by
  obtain ⟨v, rfl, p, us, rfl, h1, h2⟩ := reps1 r
  exact ⟨p, us, rfl, .inl (.of (s _ _ h1)), by rw [← h2.length]; exact q⟩
theorem c_lenF : CallS X (.builtin "len") [.fls ds] (.sh (.int ds.length)) := calls_sc call_len_seq (.int ds.length) (fun _ => rfl) fun H S vs Q s r q => by
  obtain ⟨v, rfl, p, us, rfl, h1, h2⟩ := reps1 r
  exact ⟨p, us, rfl, .inl (s.seq h1), by rw [← h2.length]; exact q⟩
theorem c_lenT : CallS X (.builtin "len") [.tup ds] (.sh (.int ds.length)) := calls_sc call_len_seq (.int ds.length) (fun _ => rfl) fun H S vs Q s r q => by
  obtain ⟨v, rfl, p, us, rfl, h1, h2⟩ := reps1 r
  exact ⟨p, us, rfl, .inr (same_sqt s h1), by rw [← h2.length]; exact q⟩
theorem c_lenS (hl : a.length ≤ sizeLine) : CallS X (.builtin "len") [.str a] (.sh (.int a.length)) := calls_sc call_len_str (.int a.length) (fun _ => rfl) fun H S vs Q s r q => by
  obtain ⟨v, rfl, rfl⟩ := reps1 r
  exact ⟨a, rfl, hl, q⟩
theorem c_tupL : CallS X (.type "tuple") [.lst ds] (.sh (.tup ds)) := ⟨_, call_tuple_of, fun Γ F σ H S vs Q R r q => by
  obtain ⟨v, rfl, p, us, rfl, h1, h2⟩ := reps1 r
  refine ⟨p, us, rfl, .inl ⟨.of (R.sh _ _ h1), fun l n => ?_⟩⟩
  obtain ⟨R2, s2⟩ := R.laid (o := .tup us) n
  exact q _ _ _ R2 s2 ⟨l, us, rfl, .of upd_same, Reps.mono s2 _ _ h2⟩⟩
theorem c_tupT : CallS X (.type "tuple") [.tup ds] (.sh (.tup ds)) := ⟨_, call_tuple_of, fun Γ F σ H S vs Q R r q => by
  obtain ⟨v, rfl, rp⟩ := reps1 r
  obtain ⟨p, us, rfl, h1, h2⟩ := id rp
  exact ⟨p, us, rfl, .inr ⟨same_sqt R.sh h1, q _ H S R (.refl _) rp⟩⟩⟩
theorem c_listL : CallS X (.type "list") [.lst ds] (.ow (.lst ds)) := ⟨_, call_list_of, fun Γ F σ H S vs Q R r q => by
  obtain ⟨v, rfl, p, us, rfl, h1, h2⟩ := reps1 r
  exact ⟨p, us, rfl, .inl (.of (R.sh _ _ h1)), fun l n => q _ _ S (R.grow (same_upd n)) (.refl _) ⟨l, rfl, R.sNone n, R.h0None n, ⟨_, upd_same, h2⟩, R.ownNone n⟩⟩⟩
theorem c_listT : CallS X (.type "list") [.tup ds] (.ow (.lst ds)) := ⟨_, call_list_of, fun Γ F σ H S vs Q R r q => by
  obtain ⟨v, rfl, p, us, rfl, h1, h2⟩ := reps1 r
  exact ⟨p, us, rfl, .inr (same_sqt R.sh h1), fun l n => q _ _ S (R.grow (same_upd n)) (.refl _) ⟨l, rfl, R.sNone n, R.h0None n, ⟨_, upd_same, h2⟩, R.ownNone n⟩⟩⟩
theorem c_sum {ns : List Int} (hc : X.calm = true) : CallS X (.builtin "sum") [.lst (ns.map .int)] (.sh (.int ns.sum)) := calls_sc (cr_sum hc) (.int ns.sum) (fun _ => rfl) fun H S vs Q s r q => by
  obtain ⟨v, rfl, p, us, rfl, h1, h2⟩ := reps1 r
  rw [h2.ints] at h1
  exact ⟨p, ns, rfl, .of (s _ _ h1), q⟩
theorem c_all {ns : List Bool} (hc : X.calm = true) : CallS X (.builtin "all") [.lst (ns.map .bl)] (.sh (.bl (ns.all id))) := calls_sc (cr_all hc) (.bl _) (fun _ => rfl) fun H S vs Q s r q => by
  obtain ⟨v, rfl, p, us, rfl, h1, h2⟩ := reps1 r
  rw [h2.bls] at h1
  exact ⟨p, ns, rfl, .of (s _ _ h1), q⟩
theorem c_abs : CallS X (.builtin "abs") [.int i] (.sh (.int (if i < 0 then -i else i))) := calls_sc call_abs (.int _) (fun _ => rfl) fun H S vs Q s r q => by
  obtain ⟨v, rfl, rfl⟩ := reps1 r
  exact ⟨i, rfl, q⟩
theorem c_max2 (hc : X.calm = true) : CallS X (.builtin "max") [.int i, .int j] (.sh (.int (if j > i then j else i))) := calls_sc (call_max2 hc) (.int _) (fun _ => rfl) fun H S vs Q s r q => by
  obtain ⟨v, w, rfl, rfl, rfl⟩ := reps2 r
  exact ⟨i, j, rfl, q⟩
theorem c_min2 (hc : X.calm = true) : CallS X (.builtin "min") [.int i, .int j] (.sh (.int (if j < i then j else i))) := calls_sc (call_min2 hc) (.int _) (fun _ => rfl) fun H S vs Q s r q => by
  obtain ⟨v, w, rfl, rfl, rfl⟩ := reps2 r
  exact ⟨i, j, rfl, q⟩
theorem c_intB {k : Bool} : CallS X (.type "int") [.bl k] (.sh (.int (if k then 1 else 0))) := calls_sc call_int1 (.int _) (fun _ => rfl) fun H S vs Q s r q => by
  obtain ⟨v, rfl, rfl⟩ := reps1 r
  exact .inr ⟨k, rfl, q⟩
theorem c_divmod (hc : CDivP i j) : CallS X (.builtin "divmod") [.int i, .int j] (.sh (.tup [.int (i / j), .int (i % j)])) := ⟨_, call_divmodW, fun Γ F σ H S vs Q R r q => by
  obtain ⟨v, w, rfl, rfl, rfl⟩ := reps2 r
  refine ⟨i, j, rfl, hc, fun p n => ?_⟩
  obtain ⟨R2, s2⟩ := R.laid (o := .tup [.int (i / j), .int (i % j)]) n
  exact q _ _ _ R2 s2 ⟨p, _, rfl, .of upd_same, .cons rfl (.cons rfl .nil)⟩⟩
/-! ### isinstance -/
def D.ty : D → String
  | .non => "NoneType"
  | .bl _ => "bool"
  | .int _ => "int"
  | .str _ => "str"
  | .tup _ => "tuple"
  | .lst _ => "list"
  | .fls _ => "list"
  | .dct _ _ => "dict"
  | _ => ""
def D.plain : D → Bool
  | .non | .bl _ | .int _ | .str _ | .tup _ | .lst _ | .dct _ _ => true
  | _ => false
theorem tyx_of {K : PySem.W.Frag} {S H : Hp} {v : V} (hp : d.plain = true) (s : Same S H) (r : Rep K S d v) : TyX K H v (.type d.ty) := by
  cases d with
  | non => rw [show v = .non from r]; exact .base .non
  | bl b => rw [show v = .bl b from r]; exact .base (.bl b)
  | int b => rw [show v = .int b from r]; exact .base (.int b)
  | str b => rw [show v = .str b from r]; exact .base (.str b)
  | tup ds =>
    obtain ⟨p, vs, rfl, h1, _⟩ := r
    rcases h1 with (h1 | ⟨o, h1⟩) | ⟨o, its, n, h1, h2, _⟩
    · exact .base (.tup (s _ _ h1))
    · exact .fTuple (s _ _ h1)
    · exact .kTuple h1 h2
  | lst ds => obtain ⟨p, vs, rfl, h1, _⟩ := r; exact .base (.lst (s _ _ h1))
  | dct ks ds => obtain ⟨p, vs, rfl, h1, _⟩ := r; exact .base (.dK (s _ _ h1))
  | _ => cases hp
theorem c_isi {T : String} {k : Bool} (hk : kitB d.ty T = some k) (hp : d.plain = true := by rfl) : CallS X (.builtin "isinstance") [d, .raw (.ty T)] (.sh (.bl k)) := calls_sc call_isi (.bl k) (fun _ => rfl) fun H S vs Q s r q => by
  obtain ⟨v, w, rfl, r1, rfl⟩ := reps2 r
  exact ⟨v, .ty T, .type d.ty, .type T, k, rfl, .ty T, tyx_of hp s r1, kit_ty hk, q⟩
/-! ### == of data -/
mutual
def D.py : D → PyData
  | .non => .none
  | .bl b => .bool b
  | .int i => .int i
  | .str x => .str x
  | .tup ds => .tuple (D.pys ds)
  | .lst ds => .list (D.pys ds)
  | .fls ds => .list (D.pys ds)
  | _ => .none
def D.pys : List D → List PyData
  | [] => []
  | d :: ds => D.py d :: D.pys ds
end
mutual
def D.flat : D → Bool
  | .non | .bl _ | .int _ | .str _ => true
  | .tup ds => D.flats ds
  | .lst ds => D.flats ds
  | .fls ds => D.flats ds
  | _ => false
def D.flats : List D → Bool
  | [] => true
  | d :: ds => D.flat d && D.flats ds
end
mutual
theorem dp_of {K : PySem.W.Frag} {S H : Hp} (s : Same S H) : ∀ (d : D) (v : V), d.flat = true → Rep K S d v → Dp K H v d.py
  | .non, _, _, r => by rw [show _ = V.non from r]; exact .non
  | .bl b, _, _, r => by rw [show _ = V.bl b from r]; exact .bl b
  | .int b, _, _, r => by rw [show _ = V.int b from r]; exact .int b
  | .str b, _, _, r => by rw [show _ = V.str b from r]; exact .str b
  | .tup ds, _, h, ⟨a, vs, e, h1, h2⟩ => by rw [e]; exact .tup (same_sqt s h1) (dps_of s ds vs h h2)
  | .lst ds, _, h, ⟨a, vs, e, h1, h2⟩ => by rw [e]; exact .lst (.of (s _ _ h1)) (dps_of s ds vs h h2)
  | .fls ds, _, h, ⟨a, vs, e, h1, h2⟩ => by rw [e]; exact .lst (s.seq h1) (dps_of s ds vs h h2)
  | .obj _ _ _, _, h, _ => by cases h
  | .dct _ _, _, h, _ => by cases h
  | .raw _, _, h, _ => by cases h
  | .ext _, _, h, _ => by cases h
theorem dps_of {K : PySem.W.Frag} {S H : Hp} (s : Same S H) : ∀ (ds : List D) (vs : List V), D.flats ds = true → Reps K S ds vs → DpAll K H vs (D.pys ds)
  | [], _, _, r => by rw [show _ = [] from r]; exact .nil
  | d :: ds, _, h, ⟨v, r, e, h1, h2⟩ => by
    have h' : (D.flat d && D.flats ds) = true := h
    rw [Bool.and_eq_true] at h'
    rw [e]
    exact .cons (dp_of s d v h'.1 h1) (dps_of s ds r h'.2 h2)
end
/-- data that == compares: flat, its texts well made, at most 64 deep -/
def Cmp (d : D) : Prop := d.flat = true ∧ SeqAt.shaped d.py = true
theorem o_eqD (hu : X.A.units + 64 < cLine) (h1 : Cmp d1) (h2 : Cmp d2) : OpS X (compareOp .Eq) d1 d2 (.sh (.bl (PyData.eqv d1.py d2.py))) := ops_sc (op_eqD hu) (.bl _) (fun _ => rfl) fun H S x y Q s r1 r2 q =>
  ⟨d1.py, d2.py, dp_of s _ _ h1.1 r1, dp_of s _ _ h2.1 r2, h1.2, h2.2, q⟩
theorem o_neD (hu : X.A.units + 64 < cLine) (h1 : Cmp d1) (h2 : Cmp d2) : OpS X (compareOp .NotEq) d1 d2 (.sh (.bl (!PyData.eqv d1.py d2.py))) := ops_sc (op_neD hu) (.bl _) (fun _ => rfl) fun H S x y Q s r1 r2 q =>
  ⟨d1.py, d2.py, dp_of s _ _ h1.1 r1, dp_of s _ _ h2.1 r2, h1.2, h2.2, q⟩
end
end PL

set_option Elab.async false
set_option linter.all false
set_option maxRecDepth 100000
set_option maxHeartbeats 1000000
namespace PL
open PySem PySem.Spec PyProof.Rows L2
/-- a def of the top as it stands, under its name -/
structure Df (K : PySem.W.Frag) (mg : Str → Option Value) (x : Str) (st : Stmt) (dvs : List V) : Prop where
  ex : ∃ f fd, FunD K x x (defArgs st) (defBody st) (defScope st) dvs [] f fd ∧ mg x = some (.ref f)
/-- a def that keeps a promise over data, under its name -/
structure C0 (Pg : Program) (w : World) (K : PySem.W.Frag) (mg : Str → Option Value) (base : Heap) (x : Str) (j : Nat) (ps : List Str) (P : List D → Rs → Prop) : Prop where
  ex : ∃ f fd, mg x = some (.ref f) ∧ PySem.W.keepIn K (.ref f) = true ∧ Binds K fd ps [] ∧ FnOk Pg w K mg base (L2.CX Pg w) j f fd ps (sp0 K P)
structure C1 (Pg : Program) (w : World) (K : PySem.W.Frag) (mg : Str → Option Value) (base : Heap) (x : Str) (j : Nat) (ps : List Str) (P : Ob → List D → Rs → Ob → Prop) : Prop where
  ex : ∃ f fd, mg x = some (.ref f) ∧ PySem.W.keepIn K (.ref f) = true ∧ Binds K fd ps [] ∧ FnOk Pg w K mg base (L2.CX Pg w) j f fd ps (sp1 K P)
structure C2 (Pg : Program) (w : World) (K : PySem.W.Frag) (mg : Str → Option Value) (base : Heap) (x : Str) (j : Nat) (ps : List Str) (P : Ob → Ob → List D → Rs → Ob → Ob → Prop) : Prop where
  ex : ∃ f fd, mg x = some (.ref f) ∧ PySem.W.keepIn K (.ref f) = true ∧ Binds K fd ps [] ∧ FnOk Pg w K mg base (L2.CX Pg w) j f fd ps (sp2 K P)
section
variable {Pg : Program} {w : World} {K : PySem.W.Frag} {mg : Str → Option Value} {base : Heap} {x : Str} {st : Stmt} {N ps : List Str} {k : Nat}
def BindsN (x : Str) (st : Stmt) (ps : List Str) : Prop := ∀ (kV doc pm : Value) (an : Option Addr) (cdv ct : Value) (us : List Value), us.length = ps.length → bindArgs (PySem.W.fnOf x x (defArgs st) (defBody st) (defScope st) .none kV doc pm an cdv ct) ⟨us, []⟩ = pure (ps.zip us)
theorem c0_mk {P : List D → Rs → Prop} (Dd : Df K mg x st []) (Sc : FnScope N ps (defScope st)) (bd : BindsN x st ps) (hn : ps.length ≤ N.length) (hl : ∀ ds r, P ds r → ds.length = ps.length ∧ ∀ j, r ≠ .br j)
    (hb : ∀ f cd A outer s H E, Gd k (cx Pg w K mg base N x (defScope st) f cd A outer s H E) → ∀ ds r, P ds r → ∃ Γ', Ends1 (cx Pg w K mg base N x (defScope st) f cd A outer s H E) (ent N ds) (defBody st) r Γ') : C0 Pg w K mg base x (k + 1) ps P := by
  obtain ⟨f, fd, FD, gm⟩ := Dd.ex
  exact ⟨f, fd, gm, FD.kp, FD.bindsN bd, fn0 FD Sc (fun ds r p => (hl ds r p).1) hn (fun ds r p => (hl ds r p).2) (hb f)⟩
theorem c1_mk {P : Ob → List D → Rs → Ob → Prop} (Dd : Df K mg x st []) (Sc : FnScope N ps (defScope st)) (bd : BindsN x st ps) (hn : ps.length ≤ N.length) (hl : ∀ o ds r o', P o ds r o' → ds.length + 1 = ps.length ∧ ∀ j, r ≠ .br j)
    (hb : ∀ f cd A outer s H E, Gd k (cx Pg w K mg base N x (defScope st) f cd A outer s H E) → ∀ o ds r o', P o ds r o' → ∀ p, ∃ Γ', Ends1 (cx Pg w K mg base N x (defScope st) f cd A outer s H E) (.pr p o :: ent N.tail ds) (defBody st) r Γ' ∧ Γ'[0]? = some (.pr p o')) : C1 Pg w K mg base x (k + 1) ps P := by
  obtain ⟨f, fd, FD, gm⟩ := Dd.ex
  exact ⟨f, fd, gm, FD.kp, FD.bindsN bd, fn1 FD Sc (fun o ds r o' p => (hl o ds r o' p).1) hn (fun o ds r o' p => (hl o ds r o' p).2) (hb f)⟩
theorem c2_mk {P : Ob → Ob → List D → Rs → Ob → Ob → Prop} (Dd : Df K mg x st []) (Sc : FnScope N ps (defScope st)) (bd : BindsN x st ps) (hn : ps.length ≤ N.length) (hl : ∀ o u ds r o' u', P o u ds r o' u' → ds.length + 2 = ps.length ∧ ∀ j, r ≠ .br j)
    (hb : ∀ f cd A outer s H E, Gd k (cx Pg w K mg base N x (defScope st) f cd A outer s H E) → ∀ o u ds r o' u', P o u ds r o' u' → ∀ p q, ∃ Γ', Ends1 (cx Pg w K mg base N x (defScope st) f cd A outer s H E) (.pr p o :: .pr q u :: ent N.tail.tail ds) (defBody st) r Γ' ∧ Γ'[0]? = some (.pr p o') ∧ Γ'[1]? = some (.pr q u')) : C2 Pg w K mg base x (k + 1) ps P := by
  obtain ⟨f, fd, FD, gm⟩ := Dd.ex
  exact ⟨f, fd, gm, FD.kp, FD.bindsN bd, fn2 FD Sc (fun o u ds r o' u' p => (hl o u ds r o' u' p).1) hn (fun o u ds r o' u' p => (hl o u ds r o' u' p).2) (hb f)⟩
end
section
variable {X : Cx} {Γ Γ1 : Gm} {e : Ex} {es : List Ex} {p pos : Pos} {r : Rs} {ds : List D} {j k : Nat} {ps : List Str} {x : Str}
theorem e_c0 {P : List D → Rs → Prop} (G : C0 X.prog X.w X.K X.mg X.base x j ps P) (g : Gd k X) (ha : AX X Γ (e :: es) ds Γ1) (hp : P ds r) (hk : j ≤ k := by decide) (hg : Gl X x := by rfl)
    (hdb : (x == ("__debug__" : Str)) = false := by decide) (he : starEach (e :: es) X.env = (false, eval e X.env) :: starEach es X.env := by rfl) (hpl : (backTo pos (starEach es X.env)).any (·.1) = false := by rfl) : EX X Γ (.Call (.Name x p) (e :: es) [] pos) r Γ1 := by
  obtain ⟨f, fd, gm, kp, b, F⟩ := G.ex
  exact e_call0 (dds := []) F ⟨gm, kp⟩ g (by rw [List.append_nil]; exact hp) ha b .nil (fun _ => rfl) hk hg hdb he hpl
theorem e_c1 {P : Ob → List D → Rs → Ob → Prop} {y : Str} {py : Pos} {s s0 : Sl} {o o0 o' : Ob} (i : Nat) (G : C1 X.prog X.w X.K X.mg X.base x j ps P) (g : Gd k X) (h0 : Has Γ i s0 o0) (ha : AX X Γ es ds Γ1) (h1 : Has Γ1 i s o) (hp : P o ds r o')
    (hk : j ≤ k := by decide) (hg : Gl X x := by rfl) (hN : X.N[i]? = some y := by rfl) (hv : Vis X.env.scope y := by first | exact Or.inl rfl | exact Or.inr (Or.inl rfl) | exact Or.inr (Or.inr rfl)) (hyd : (y == ("__debug__" : Str)) = false := by decide) (hcd : (y == ("__classdict__" : Str)) = false := by decide)
    (hdb : (x == ("__debug__" : Str)) = false := by decide) (he : starEach (.Name y py :: es) X.env = (false, eval (.Name y py) X.env) :: starEach es X.env := by rfl) (hpl : (backTo pos (starEach es X.env)).any (·.1) = false := by rfl) : EX X Γ (.Call (.Name x p) (.Name y py :: es) [] pos) r (Γ1.set i (s.re o')) := by
  obtain ⟨f, fd, gm, kp, b, F⟩ := G.ex
  exact e_call1 (dds := []) F ⟨gm, kp⟩ g h0 ha h1 (by rw [List.append_nil]; exact hp) b .nil (fun _ => rfl) hk hg hN hv hyd hcd hdb he hpl
end
end PL

set_option Elab.async false
set_option linter.all false
set_option maxRecDepth 100000
set_option maxHeartbeats 4000000
namespace PL
open PySem PySem.Spec PyProof.Rows L2 HT
/-- t[lo:hi:-1] -/
def pickB {α : Type} (xs : List α) (lo hi : Option Int) : List α :=
  (List.range (Builtin.Slice.slicePlaces (Builtin.Slice.sliceAdjust lo hi (-1) (xs.length : Int)).1 (Builtin.Slice.sliceAdjust lo hi (-1) (xs.length : Int)).2 (-1))).filterMap fun (k : Nat) => xs[((Builtin.Slice.sliceAdjust lo hi (-1) (xs.length : Int)).1 + (k : Int) * (-1)).toNat]?
section
variable {prog : Program} {w : World} {A : Around} {E : Value → Shared → Prop} {s : Shared}
theorem sliceApplied_back {sl : Addr} {vl vu vs : Value} {lo hi : Option Int} {n : Nat} {Q : Int × Int × Nat → Shared → Prop} (hs : s.heap.IsSliceOf sl vl vu vs) (pl : IsPart vl lo) (pu : IsPart vu hi) (ps : IsPart vs (some (-1)))
    (h : Q ((Builtin.Slice.sliceAdjust lo hi (-1) (n : Int)).1, -1, Builtin.Slice.slicePlaces (Builtin.Slice.sliceAdjust lo hi (-1) (n : Int)).1 (Builtin.Slice.sliceAdjust lo hi (-1) (n : Int)).2 (-1)) s) : wpAny (model prog w) A (Builtin.Slice.sliceApplied (.ref sl) (pure (n : Int))) Q E s := by
  obtain ⟨os, hos, hcs, hds⟩ := id hs
  unfold Builtin.Slice.sliceApplied Builtin.Slice.sliceFields
  refine wpAny_bind (wpAny_bind (wpAny_field hos hds (x := vl) rfl (wpAny_bind (wpAny_field hos hds (x := vu) rfl (wpAny_bind (wpAny_field hos hds (x := vs) rfl (wpAny_pure ?_)))))))
  refine wpAny_bind (slicePart_ ps ?_)
  show wpAny _ _ (if ((-1 : Int) == 0) = true then _ else _) _ _ s
  rw [if_neg (by decide)]
  refine wpAny_bind (slicePart_ pl (wpAny_bind (slicePart_ pu (wpAny_bind (wpAny_pure ?_)))))
  exact wpAny_pure h
theorem getItem_tuple_back {t sl : Addr} {items : Array Value} {vl vu vs : Value} {lo hi : Option Int} {Q : Value → Shared → Prop} (ht : IsTup s.heap t items) (hs : s.heap.IsSliceOf sl vl vu vs) (pl : IsPart vl lo) (pu : IsPart vu hi) (ps : IsPart vs (some (-1)))
    (hz : (pickB items.toList lo hi).length ≤ sizeLine) (h : Q (.ref s.heap.objs.size) { s with heap := s.heap.push { cls := .type "tuple", data := .seq (pickB items.toList lo hi).toArray } }) : wpAny (model prog w) A (getItem (.ref t) (.ref sl)) Q E s := by
  have htake : sizeOk (.seq (pickB items.toList lo hi).toArray) := by
    show (pickB items.toList lo hi).toArray.size ≤ sizeLine
    rw [List.size_toArray]
    exact hz
  obtain ⟨os, hos, hcs, hds⟩ := id hs
  have hTs : s.TypeIs (.ref sl) "slice" := ⟨os, hos, hcs⟩
  have epk : ((List.range (Builtin.Slice.slicePlaces (Builtin.Slice.sliceAdjust lo hi (-1) (items.size : Int)).1 (Builtin.Slice.sliceAdjust lo hi (-1) (items.size : Int)).2 (-1))).filterMap fun (k : Nat) => items[((Builtin.Slice.sliceAdjust lo hi (-1) (items.size : Int)).1 + (k : Int) * (-1)).toNat]?) = pickB items.toList lo hi := by
    unfold pickB
    rw [Array.length_toList]
    congr 1
    funext k
    rw [Array.getElem?_toList]
  unfold getItem
  try with_reducible refine wpAny_holding ?_
  first | refine wpAny_bind (wpAny_pure ?_) | skip
  refine wpAny_bind (wpAny_sequenceKey ht.typeIs (by decide) ?_)
  refine wpAny_bind (wpAny_callSpecial?_slot (name := Str.ofString "__getitem__") ht.typeIs PyProof.Rows.slot_tuple_getitem
    (wpAny_call_entry PyProof.Rows.slot_tuple_getitem ht.typeIs entry_tuple_getitem ?_ (args_tuple_getitem _ _)))
  show wpAny _ _ (Builtin.Tuple.tupleItemsOf (.ref t) >>= _) _ _ s
  refine wpAny_bind (tupleItemsOf_ ht ?_)
  refine wpAny_bind (wpAny_typeOf hTs ?_)
  rw [if_pos (by decide)]
  refine wpAny_bind (sliceApplied_back hs pl pu ps ?_)
  generalize Builtin.Slice.sliceAdjust lo hi (-1) (items.size : Int) = pq at epk ⊢
  generalize hcnt : Builtin.Slice.slicePlaces pq.1 pq.2 (-1) = cnt at epk ⊢
  show wpAny _ _ (if (pq.1 == 0 && (-1 : Int) == 1 && cnt == items.size) = true then _ else _) _ _ s
  rw [if_neg (by simp), epk]
  first
    | exact wpAny_bind (m := Builtin.Tuple.tupleExact _) (wpAny_newObj_type (wpAny_pure ⟨_, rfl, wpAny_pure h⟩) htake)
    | exact wpAny_bind (m := Builtin.Tuple.tupleExact _) (wpAny_newObj_type (wpAny_bind (wpAny_pure (wpAny_pure ⟨_, rfl, wpAny_pure h⟩))) htake)
    | exact wpAny_bind (wpAny_bind (m := Builtin.Tuple.tupleExact _) (wpAny_newObj_type (wpAny_pure (wpAny_pure ⟨_, rfl, wpAny_pure h⟩)) htake))
    | exact wpAny_bind (wpAny_bind (m := Builtin.Tuple.tupleExact _) (wpAny_newObj_type (wpAny_pure ⟨_, rfl, wpAny_pure h⟩) htake))
end
theorem pickB_len {α : Type} (xs : List α) (lo hi : Option Int) : (pickB xs lo hi).length ≤ xs.length := by
  unfold pickB
  refine Nat.le_trans (List.length_filterMap_le _ _) ?_
  rw [List.length_range]
  unfold Builtin.Slice.slicePlaces Builtin.Slice.sliceAdjust
  have h1 : (-1 : Int) < 0 := by decide
  have h2 : ¬ ((-1 : Int) > 0) := by decide
  simp only [h1, h2, if_true, if_false]
  have e : (- -1 : Int) = 1 := by decide
  rw [e]
  simp only [Int.ediv_one]
  cases lo <;> cases hi <;> simp only [] <;> (repeat split) <;> omega
theorem fm_some {α : Type} {xs : List α} {g : Nat → Nat} {k : Nat} {l : List Nat} {x : α} (h : xs[g k]? = some x) : (k :: l).filterMap (fun k => xs[g k]?) = x :: l.filterMap (fun k => xs[g k]?) := List.filterMap_cons_some (f := fun k => xs[g k]?) h
theorem fm_none {α : Type} {xs : List α} {g : Nat → Nat} {k : Nat} {l : List Nat} (h : xs[g k]? = none) : (k :: l).filterMap (fun k => xs[g k]?) = l.filterMap (fun k => xs[g k]?) := List.filterMap_cons_none (f := fun k => xs[g k]?) h
theorem filterMap_rep {K : PySem.W.Frag} {S : Hp} {ds : List D} {vs : List V} (r : Reps K S ds vs) (g : Nat → Nat) : ∀ l : List Nat, Reps K S (l.filterMap fun k => ds[g k]?) (l.filterMap fun k => vs[g k]?)
  | [] => rfl
  | k :: l => by
    cases e1 : ds[g k]? with
    | none =>
      have e2 : vs[g k]? = none := by
        rw [List.getElem?_eq_none_iff] at e1 ⊢
        rw [← r.length]; exact e1
      rw [fm_none e1, fm_none e2]
      exact filterMap_rep r g l
    | some d =>
      obtain ⟨v, e2, q2⟩ := r.get e1
      rw [fm_some e1, fm_some e2]
      exact .cons q2 (filterMap_rep r g l)
theorem Reps.pickB {K : PySem.W.Frag} {S : Hp} {ds : List D} {vs : List V} {lo hi : Option Int} (r : Reps K S ds vs) : Reps K S (PL.pickB ds lo hi) (PL.pickB vs lo hi) := by
  unfold PL.pickB
  rw [r.length]
  exact filterMap_rep r _ _
theorem vals_filterMap {vs : List V} {us : List Value} (r : Vals vs us) (g : Nat → Nat) : ∀ l : List Nat, Vals (l.filterMap fun k => vs[g k]?) (l.filterMap fun k => us[g k]?)
  | [] => .nil
  | k :: l => by
    cases e1 : vs[g k]? with
    | none => rw [fm_none e1, fm_none (r.none_of e1)]; exact vals_filterMap r g l
    | some v =>
      obtain ⟨u, e2, ru⟩ := r.get e1
      rw [fm_some e1, fm_some e2]
      exact .cons ru (vals_filterMap r g l)
theorem vals_pickB {vs : List V} {us : List Value} {lo hi : Option Int} (r : Vals vs us) : Vals (pickB vs lo hi) (pickB us lo hi) := by
  unfold pickB
  rw [r.length]
  exact vals_filterMap r _ _
section
variable {X : Cx} {Γ Γ1 Γ2 Γ3 : Gm} {a : Ex} {lo hi : Option Ex} {i j : Option Int} {ds : List D} {k : Nat} {p1 p2 p3 pos : Pos}
/-- t[lo:hi:-1] of a tuple -/
theorem pe_backT {te : TE} {tl th : TO} (he : PE X a te) (hl : PO X lo tl) (hh : PO X hi th) : PE X (.Subscript a (.Slice lo hi (some (.UnaryOp .USub (.Constant (.int 1) k p1) p2)) p3) pos)
    (fun σ H Q => te σ H fun x H1 => tl σ H1 fun l H2 => th σ H2 fun u H3 => ∃ t xs, x = .ref t ∧ SqT X.K H3 t xs ∧ ∀ p, H3 p = none → Q (.ref p) (upd H3 p (.tup (pickB xs l u)))) := by
  refine ⟨fun pins s σ H Q I h => ?_⟩
  refine Subscript_ (thn (he.run pins s σ H _ I h) fun v s1 ⟨x, H1, I1, r1, q1⟩ => ?_)
  have hst : PO X (some (.UnaryOp .USub (.Constant (.int 1) k p1) p2)) (tPart (tUn (rU fun i => .int (-i)) (tC (.int 1)))) := po_some (pe_un un_neg pe_int)
  refine wpAny_Slice (thn (hl.run pins s1 σ H1 _ I1 q1) fun vl s2 ⟨l, H2, I2, pl, q2⟩ => thn (hh.run pins s2 σ H2 _ I2 q2) fun vu s3 ⟨u, H3, I3, pu, q3⟩ => ?_)
  refine thn (hst.run pins s3 σ H3 (fun o H4 => o = some (-1) ∧ H4 = H3) I3 ⟨1, rfl, -1, rfl, rfl, rfl⟩) fun vs s4 ⟨o, H4, I4, ps, eo, e4⟩ => ?_
  subst eo e4
  obtain ⟨t, xs, rfl, hx, q⟩ := q3
  cases r1
  have I5 : Inv X pins σ H4 { s4 with heap := s4.heap.push { cls := .type "slice", data := .fields #[vl, vu, vs] } } := I4.kept (t' := s4.toks) fun b ob q => Heap.get?_push_of_some _ q
  obtain ⟨its, r, ht, hz⟩ := I5.tuple hx
  have hlen := r.length
  show wpAny (model X.prog X.w) X.A (subscriptTail a (.Slice lo hi (some (.UnaryOp .USub (.Constant (.int 1) k p1) p2)) p3) (.ref t) (.ref s4.heap.objs.size)) (EP X pins σ Q) X.xe { s4 with heap := s4.heap.push { cls := .type "slice", data := .fields #[vl, vu, vs] } }
  refine tail_any (ops := [.ref t, .ref s4.heap.objs.size]) ht.typeIs (PyProof.Rows.slot_tuple_getitem.lookup) ?_ (by with_unfolding_all rfl)
  have hz2 : (pickB its.toArray.toList l u).length ≤ sizeLine := by
    refine Nat.le_trans (pickB_len _ _ _) ?_
    show its.length ≤ sizeLine
    omega
  refine getItem_tuple_back ht (Heap.IsSliceOf.new _ vl vu vs) pl pu ps hz2 ?_
  refine ⟨.ref _, _, I5.laid (t' := s4.toks) (o := .tup (pickB xs l u)) (fun b ob q => Heap.get?_push_of_some _ q) (Nat.le_refl _) ?_, rfl, q _ (I5.hok.fresh (Nat.le_refl _))⟩
  exact ⟨Nat.le_trans (pickB_len _ _ _) hz, _, vals_pickB r, IsTup.new _ _⟩
theorem e_backT (h : EX X Γ a (.sh (.tup ds)) Γ1) (hl : PX X Γ1 lo i Γ2) (hh : PX X Γ2 hi j Γ3) : EX X Γ (.Subscript a (.Slice lo hi (some (.UnaryOp .USub (.Constant (.int 1) k p1) p2)) p3) pos) (.sh (.tup (pickB ds i j))) Γ3 := fun F σ H S Q R q =>
  pe_we (pe_backT we_pe wp_po wp_po) (h F σ H S _ R fun x H1 S1 R1 s1 r1 => hl F σ H1 S1 _ R1 fun H2 S2 R2 s2 => hh F σ H2 S2 _ R2 fun H3 S3 R3 s3 => by
    obtain ⟨t, vs, rfl, h1, h2⟩ := r1
    refine ⟨t, vs, rfl, same_sqt ((s2.trans s3).trans R3.sh) h1, fun p n => ?_⟩
    obtain ⟨R4, s4⟩ := R3.laid (o := .tup (pickB vs i j)) n
    exact q _ _ _ R4 (((s1.trans s2).trans s3).trans s4) ⟨p, _, rfl, .of upd_same, Reps.mono ((s2.trans s3).trans s4) _ _ h2.pickB⟩)
theorem e_revL (h : EX X Γ a (.sh (.lst ds)) Γ1) : EX X Γ (.Subscript a (.Slice none none (some (.UnaryOp .USub (.Constant (.int 1) k p1) p2)) p3) pos) (.ow (.lst ds.reverse)) Γ1 := fun F σ H S Q R q =>
  pe_we (pe_revL we_pe) (h F σ H S _ R fun x H1 S1 R1 s1 r1 => by
    obtain ⟨t, vs, rfl, h1, h2⟩ := r1
    exact ⟨t, vs, rfl, .of (R1.sh _ _ h1), fun p n => q _ _ S1 (R1.grow (same_upd n)) s1 ⟨p, rfl, R1.sNone n, R1.h0None n, ⟨_, upd_same, h2.reverse⟩, R1.ownNone n⟩⟩)
end
/-! ### the three forms -/
theorem pick_down {α : Type} (xs : List α) : ∀ (n s : Nat), s < xs.length → n ≤ s + 1 → ((List.range n).filterMap fun k => xs[s - k]?) = ((xs.take (s + 1)).drop (s + 1 - n)).reverse
  | 0, s, _, _ => by simp
  | n + 1, s, hs, hn => by
    rw [List.range_succ, List.filterMap_append, pick_down xs n s hs (by omega)]
    have hk : s - n < xs.length := by omega
    have e : [n].filterMap (fun k => xs[s - k]?) = [xs[s - n]] := by
      exact fm_some (g := fun k => s - k) (l := []) (List.getElem?_eq_getElem hk)
    have hd : s + 1 - (n + 1) = s - n := by omega
    have hd2 : s + 1 - n = (s - n) + 1 := by omega
    rw [e, hd, hd2]
    have hl : s - n < (xs.take (s + 1)).length := by rw [List.length_take]; omega
    rw [← List.getElem_cons_drop hl, List.reverse_cons]
    congr 2
    rw [List.getElem_take]
theorem pickB_eq {α : Type} (xs : List α) (lo hi : Option Int) (s n : Nat) (h1 : (Builtin.Slice.sliceAdjust lo hi (-1) (xs.length : Int)).1 = (s : Int)) (h2 : (Builtin.Slice.sliceAdjust lo hi (-1) (xs.length : Int)).2 = (s : Int) - n) (hs : s < xs.length) (hn : n ≤ s + 1) : pickB xs lo hi = ((xs.take (s + 1)).drop (s + 1 - n)).reverse := by
  unfold pickB
  rw [h1, h2]
  have e : Builtin.Slice.slicePlaces (s : Int) ((s : Int) - n) (-1) = n := by
    unfold Builtin.Slice.slicePlaces
    have h2 : ¬ ((-1 : Int) > 0) := by decide
    have e : (- -1 : Int) = 1 := by decide
    simp only [h2, if_false, e, Int.ediv_one]
    split <;> omega
  rw [e, ← pick_down xs n s hs hn]
  have hf : (fun (k : Nat) => xs[((s : Int) + (k : Int) * (-1)).toNat]?) = fun k => xs[s - k]? := by
    funext k
    rw [show ((s : Int) + (k : Int) * (-1)).toNat = s - k by omega]
  rw [hf]
theorem pickB_all {α : Type} (xs : List α) : pickB xs none none = xs.reverse := by
  cases xs with
  | nil => rfl
  | cons x r =>
    rw [pickB_eq (x :: r) none none r.length (r.length + 1) (by unfold Builtin.Slice.sliceAdjust; simp) (by unfold Builtin.Slice.sliceAdjust; simp; omega) (by simp) (by omega)]
    simp
theorem pickB_from {α : Type} (xs : List α) (i : Nat) (h : i < xs.length) : pickB xs (some (i : Int)) none = (xs.take (i + 1)).reverse := by
  rw [pickB_eq xs _ none i (i + 1) (by unfold Builtin.Slice.sliceAdjust; simp; omega) (by unfold Builtin.Slice.sliceAdjust; simp; omega) h (by omega)]
  simp
theorem pickB_to {α : Type} (xs : List α) (i : Nat) (h : i < xs.length) : pickB xs none (some (i : Int)) = (xs.drop (i + 1)).reverse := by
  rw [pickB_eq xs none _ (xs.length - 1) (xs.length - 1 - i) (by unfold Builtin.Slice.sliceAdjust; simp; omega) (by unfold Builtin.Slice.sliceAdjust; simp; omega) (by omega) (by omega)]
  rw [show xs.length - 1 + 1 = xs.length by omega, List.take_length, show xs.length - (xs.length - 1 - i) = i + 1 by omega]
end PL

set_option Elab.async false
set_option linter.all false
set_option maxRecDepth 100000
set_option maxHeartbeats 4000000
/-! enumerate of a tuple -/
namespace PL
open PySem PySem.Spec PyProof.Rows L2
open PySem.AutoSeq1 (wpAny_loadPart')
section
variable {prog : Program} {w : World} {A : Around} {E : Value → Shared → Prop} {s : Shared}
theorem nextOf_tuple_item {it t : Addr} {i : Nat} {items : Array Value} {x : Value} {Q : Value → Shared → Prop} (hit : s.heap.IsTupleIter it t i)
    (ht : s.heap.IsTuple t items) (hx : items[i]? = some x)
    (hQ : ∀ h', h'.IsTupleIter it t (i + 1) → Heap.SameBut it s.heap h' → Q x { s with heap := h' }) :
    wpAny (model prog w) A (Builtin.SmallTypes.nextOf (.ref it)) Q E s := by
  obtain ⟨o, ho, hc, hd⟩ := id hit
  obtain ⟨ol, hol, _, nl, hdl⟩ := ht
  unfold Builtin.SmallTypes.nextOf
  refine wpAny_bind (wpAny_callSpecial?_slot (name := Str.ofString "__next__") hit.typeIs F.slot_tuple_iterator_next
    (wpAny_call_entry F.slot_tuple_iterator_next hit.typeIs F.entry_tuple_iterator_next ?_ (F.args_tuple_iterator_next_1 _)))
  show wpAny _ _ (field (.ref it) 0 >>= _) _ _ s
  refine wpAny_bind (wpAny_field ho hd (x := .ref t) rfl ?_)
  show wpAny _ _ (if (Value.ref t == Value.none) = true then _ else _) _ _ s
  rw [if_neg (show ¬ ((Value.ref t == Value.none) = true) from Bool.false_ne_true)]
  show wpAny _ _ (field (.ref it) 1 >>= _) _ _ s
  refine wpAny_bind (wpAny_field ho hd (x := .int i 0) rfl ?_)
  show wpAny _ _ (seqItems? (.ref t) >>= _) _ _ s
  refine wpAny_bind (wpAny_seqItems hol hdl ?_)
  simp only [Int.toNat_natCast, hx]
  refine wpAny_bind (wpAny_setField ho hd (by simp) (wpAny_pure ⟨x, rfl, wpAny_pure (hQ _ ?_ (Heap.SameBut.update ..))⟩))
  exact ⟨_, Heap.get?_update_self _ ho (Obj.isFreed_of_fields (Obj.data_mapFields hd _)), (Obj.cls_mapFields ..).trans hc, by
    rw [Obj.data_mapFields hd]; simp [rawInt]⟩
theorem nextOf_tuple_end {it t : Addr} {i : Nat} {items : Array Value} {Q : Value → Shared → Prop} (hh : A.handled = none)
    (hit : s.heap.IsTupleIter it t i) (ht : s.heap.IsTuple t items) (hx : items[i]? = none)
    (hE : ∀ h' e, Heap.ExtBut it s.heap h' → (∃ o, h'.get? e = some o ∧ o.cls = .type "StopIteration") → E (.ref e) { s with heap := h' }) : wpAny (model prog w) A (Builtin.SmallTypes.nextOf (.ref it)) Q E s := by
  obtain ⟨o, ho, hc, hd⟩ := id hit
  obtain ⟨ol, hol, _, nl, hdl⟩ := ht
  unfold Builtin.SmallTypes.nextOf
  refine wpAny_bind (wpAny_callSpecial?_slot (name := Str.ofString "__next__") hit.typeIs F.slot_tuple_iterator_next
    (wpAny_call_entry F.slot_tuple_iterator_next hit.typeIs F.entry_tuple_iterator_next ?_ (F.args_tuple_iterator_next_1 _)))
  show wpAny _ _ (field (.ref it) 0 >>= _) _ _ s
  refine wpAny_bind (wpAny_field ho hd (x := .ref t) rfl ?_)
  show wpAny _ _ (if (Value.ref t == Value.none) = true then _ else _) _ _ s
  rw [if_neg (show ¬ ((Value.ref t == Value.none) = true) from Bool.false_ne_true)]
  show wpAny _ _ (field (.ref it) 1 >>= _) _ _ s
  refine wpAny_bind (wpAny_field ho hd (x := .int i 0) rfl ?_)
  show wpAny _ _ (seqItems? (.ref t) >>= _) _ _ s
  refine wpAny_bind (wpAny_seqItems hol hdl ?_)
  simp only [Int.toNat_natCast, hx]
  refine wpAny_bind (wpAny_rule (wpAny_bind (wpAny_setField ho hd (by simp) ?_)))
  first
    | show wpAny _ _ (newExc (.type "StopIteration") [] >>= _) _ _ _
    | refine wpAny_bind (wpAny_letGo ?_)
  refine wpAny_bind ?_
  simp only [newExc, newTuple]
  refine wpAny_bind (wpAny_newObj_type ?_ (by size_fits))
  refine wpAny_bind (m := firstArgMember _ _) (wpAny_of_eq (a := Value.none) (by first | rfl | (simp only [firstArgMember]; rfl)) ?_)
  refine wpAny_newObj_type ?_ (by size_fits)
  simp only [raiseNew]
  refine wpAny_bind (wpAny_handled ?_)
  first | rw [show A.in1.handled = none from hh] | rw [hh]
  refine wpAny_bind (wpAny_pure (wpAny_throw ?_))
  exact hE _ _ (((Heap.SameBut.update ..).extBut.push _).push _) ⟨_, Heap.get?_push_size _ rfl, rfl⟩
end
theorem IsTupleIter_at {h h' : Heap} {a t : Addr} {i : Nat} (x : h.IsTupleIter a t i) (k : ∀ o, h.get? a = some o → h'.get? a = some o) : h'.IsTupleIter a t i := let ⟨o, ho, r⟩ := x; ⟨o, k o ho, r⟩
theorem IsTuple_at {h h' : Heap} {a : Addr} {items : Array Value} (x : h.IsTuple a items) (k : ∀ o, h.get? a = some o → h'.get? a = some o) : h'.IsTuple a items := let ⟨o, ho, r⟩ := x; ⟨o, k o ho, r⟩
theorem draws_tuple {prog : Program} {w : World} {A : Around} (hh : A.handled = none) (it l : Addr) (hne : l ≠ it) (items : Array Value) :
    Draws prog w A it [it, l] items.size (fun i v => items[i]? = some v) (fun i h => h.IsTupleIter it l i ∧ h.IsTuple l items) where
  live := fun _ _ st => let ⟨o, ho, _⟩ := st.1; ⟨o, ho⟩
  frame := fun _ _ _ st hk => ⟨IsTupleIter_at st.1 fun o e => hk it (by simp) o e, IsTuple_at st.2 fun o e => hk l (by simp) o e⟩
  item := fun i s Q E hi st hQ => by
    refine nextOf_tuple_item st.1 st.2 (x := items[i]) (by simp [hi]) fun h' hit' hs' => ?_
    exact hQ _ h' s.toks (by simp [hi]) ⟨hit', st.2.extBut hs'.extBut hne⟩ hs'
  done := fun s Q E st hE => nextOf_tuple_end hh st.1 st.2 (by simp) hE
theorem meets_enumerate_newT (l : Addr) (items : Array Value) (n : Nat) (dct : Option Addr) (sl : Array (Option Value)) :
    Meets (Builtin.«enumerate.__new__» ⟨[.type "enumerate", .ref l], []⟩) (fun _ R s => s.heap.get? l = some { cls := .type "tuple", dict := dct, data := .seq items n, slots := sl } ∧
      R (.ok (.ret (.ref (s.heap.push { cls := .type "tuple_iterator", data := .fields #[.ref l, .int 0 0] }).objs.size)))
        { s with heap := (s.heap.push { cls := .type "tuple_iterator", data := .fields #[.ref l, .int 0 0] }).push { cls := .type "enumerate", data := .fields #[.none, .bool false, .ref s.heap.objs.size, rawInt 0, .none, .none] } }) :=
  .of_wp fun prog w A R s h => by
    obtain ⟨hp, g, d, tk, os⟩ := s; obtain ⟨hl, h⟩ := h
    have hsub := sub_enumerate
    have hL : Heap.IsTuple (Shared.heap ⟨hp, g, d, tk, os⟩) l items := ⟨_, hl, rfl, n, rfl⟩
    wp_walk using wpAny_loadPart' hl
    refine wpAny_stack_any fun st => wpAny_pure ?_
    split
    · rename_i c _ _ _ _ _
      cases (c == Value.type "enumerate")
      · wp_walk using wpAny_loadPart' hl, wpAny_pyIter_tuple hL
        exact ⟨_, rfl, h⟩
      · wp_walk using wpAny_loadPart' hl, wpAny_pyIter_tuple hL
        exact ⟨_, rfl, h⟩
    · wp_walk using wpAny_loadPart' hl, wpAny_pyIter_tuple hL
      exact ⟨_, rfl, h⟩
section
variable {prog : Program} {w : World} {A : Around} {E : Value → Shared → Prop} {s : Shared}
theorem call_enumerate_tuple {l : Addr} {items : Array Value} {Q : Value → Shared → Prop} (hL : s.heap.IsTuple l items)
    (h : ∀ h', IsEnum h' (s.heap.objs.size + 1) s.heap.objs.size 0 .none → h'.IsTupleIter s.heap.objs.size l 0 → h'.objs.size = s.heap.objs.size + 2 →
      (∀ b o, s.heap.get? b = some o → h'.get? b = some o) → Q (.ref (s.heap.objs.size + 1)) { s with heap := h' }) :
    wpAny (model prog w) A (call (.type "enumerate") [.ref l]) Q E s := by
  obtain ⟨⟨c, dct, dt, sl⟩, hl, hc, n, hd⟩ := hL
  replace hc : c = .type "tuple" := hc
  replace hd : dt = .seq items n := hd
  subst hc hd
  refine callType_new F.called_enumerate (by decide) (F.typeCall_enumerate_1 _) (F.newCall_enumerate_1 _) (fun obj => F.args_object_init_2 obj _) F.entry_enumerate_new
    (meets_enumerate_newT l items n dct sl) ⟨hl, ?_⟩
  have hz : (s.heap.push { cls := .type "tuple_iterator", data := .fields #[.ref l, .int 0 0] }).objs.size = s.heap.objs.size + 1 := Heap.size_push ..
  show _ ∧ _
  rw [hz]
  have he : IsEnum ((s.heap.push { cls := .type "tuple_iterator", data := .fields #[.ref l, .int 0 0] }).push
      { cls := .type "enumerate", data := .fields #[.none, .bool false, .ref s.heap.objs.size, rawInt 0, .none, .none] }) (s.heap.objs.size + 1) s.heap.objs.size 0 .none := by
    have := Heap.get?_push_size (s.heap.push { cls := .type "tuple_iterator", data := .fields #[.ref l, .int 0 0] })
      (o := { cls := .type "enumerate", data := .fields #[.none, .bool false, .ref s.heap.objs.size, rawInt 0, .none, .none] }) rfl
    rw [hz] at this; exact this
  refine ⟨⟨_, he, rfl⟩, h _ he ⟨_, Heap.get?_push_of_some _ (Heap.get?_push_size _ rfl), rfl, rfl⟩ (by rw [Heap.size_push, hz]) fun b o x => Heap.get?_push_of_some _ (Heap.get?_push_of_some _ x)⟩
end
/-- the tuple at a, each item in a new pair -/
def IteT (K : PySem.W.Frag) (a : Addr) : It :=
  ⟨fun i H => ∃ (xs : List V) (x : V), SqT K H a xs ∧ xs[i]? = some x, fun i H v H' => ∃ T x, v = .ref T ∧ H T = none ∧ H' = upd H T (.tup [.int (i : Nat), x]) ∧ ∀ xs, SqT K H a xs → xs[i]? = some x, fun i H => ∃ xs : List V, SqT K H a xs ∧ xs.length = i⟩
theorem isTuple_of {h : Heap} {a : Addr} {its : Array Value} (p : IsTup h a its) : h.IsTuple a its := let ⟨o, h1, h2, n, h3⟩ := p; ⟨o, h1, h2, n, h3⟩
theorem turn_enumT {P : Program} {w : World} {K : PySem.W.Frag} {elts : List Ex} {kk : Nat} {tpos : Pos} (a e it : Addr) :
    Turn P w K (.Tuple elts kk tpos) (IteT K a) [e, it] e (fun i h => (∃ old, IsEnum h e it ((i : Nat) : Int) old) ∧ h.IsTupleIter it a i ∧ e ≠ it) where
  mem := by simp
  obj := fun i h st b hb => by
    obtain ⟨⟨old, he⟩, ⟨o, ho, hc, hd⟩, _⟩ := st
    have e' : b = e ∨ b = it := by simpa using hb
    rcases e' with z | z
    · rw [z]; exact ⟨_, he, fun v q => nomatch q⟩
    · rw [z]; exact ⟨o, ho, fun v q => by rw [hd] at q; cases q⟩
  keep := fun i h h' st k => let ⟨⟨old, he⟩, hi, hne⟩ := st; ⟨⟨old, k e (by simp) _ he⟩, IsTupleIter_at hi fun o q => k it (by simp) o q, hne⟩
  item := by
    intro X hP hw hK hc i pins s σ H E I hf st hg
    subst hP hw hK
    obtain ⟨⟨old, he⟩, hit, hne⟩ := st
    obtain ⟨xs, x, hq, hx⟩ := hg
    obtain ⟨its, rv, p, hz⟩ := I.tuple hq
    obtain ⟨u, hu, ru⟩ := rv.get hx
    have hel : e < s.heap.objs.size := Heap.lt_size he
    have hil : it < s.heap.objs.size := by obtain ⟨_, q, _⟩ := hit; exact Heap.lt_size q
    have hT0 : s.heap.IsTuple a its.toArray := isTuple_of p
    have hai : a ≠ it := fun z => by
      obtain ⟨o1, q1, q2, _⟩ := hT0
      obtain ⟨o2, q3, q4, _⟩ := hit
      rw [z, q3] at q1; cases q1; rw [q2] at q4; exact absurd (Value.type.inj q4) (by decide)
    have hae : e ≠ a := fun z => by
      obtain ⟨o1, q1, q2, _⟩ := hT0
      rw [← z] at q1
      rw [show s.heap.get? e = some _ from he] at q1; cases q1; exact absurd (Value.type.inj q2) (by decide)
    have hi : i < its.toArray.size := by rw [List.size_toArray]; exact (List.getElem?_eq_some_iff.mp hu).1
    refine wpAny_pyNext_enum_itemD (draws_tuple (A := X.A.in1) (I.ok.hd hc) it a hai its.toArray) he ⟨hit, hT0⟩ hi hne (by simp [hae, hne]) fun y h' tk hP' ho hit' hT hsz hk => ?_
    have eu : y = u := by
      have q : its.toArray[i]? = some y := hP'
      rw [List.getElem?_toArray, hu] at q
      exact (Option.some.inj q).symm
    subst eu
    refine ⟨_, rfl, wpAny_letOwnedTupleGo_enum (s := { s with heap := h', toks := tk + 1 }) ho fun h'' he' sb => ?_⟩
    have hT2 : h''.get? s.heap.objs.size = some { cls := .type "tuple", data := .seq #[.int i tk, y] } := (sb.2 _ (Nat.ne_of_gt hel)).trans hT
    have new : ObjOk X.prog X.w (upd H s.heap.objs.size (.tup [.int (i : Nat), x])) h'' s.heap.objs.size (.tup [.int (i : Nat), x]) :=
      ⟨by show 2 ≤ sizeLine; decide, [.int i tk, y], .cons ⟨_, rfl⟩ (.cons ru .nil), ⟨_, hT2, rfl, _, rfl⟩⟩
    have I1 : Inv X pins σ (upd H s.heap.objs.size (.tup [.int (i : Nat), x])) { s with heap := h'', toks := tk + 1 } :=
      I.turnedNew (ch := [e, it]) (fun b ob hb q => (sb.2 b (fun z => hb (by simp [z]))).trans (hk b ob (fun z => hb (by simp [z])) (fun z => hb (by simp [z])) q)) hf (Nat.le_refl _) new
    refine ⟨.ref s.heap.objs.size, _, I1, rfl, ⟨_, x, rfl, I.hok.fresh (Nat.le_refl _), rfl, fun ys hy => by rw [I.tuple_inj hy hq]; exact hx⟩, ⟨⟨y, ?_⟩, IsTupleIter_at hit'.1 fun o q => (sb.2 it (Ne.symm hne)).trans q, hne⟩, fun b hb => ?_⟩
    · have e1 : ((i + 1 : Nat) : Int) = (i : Int) + 1 := by omega
      rw [e1]; exact he'
    · have hb' : b < s.heap.objs.size := by
        have e' : b = e ∨ b = it := by simpa using hb
        rcases e' with z | z
        · rw [z]; exact hel
        · rw [z]; exact hil
      rw [upd_ne (Nat.ne_of_lt hb')]
      exact (hf b hb).1
  done := by
    intro X hP hw hK hc i pins s σ H E I hf st hg
    subst hP hw hK
    obtain ⟨⟨old, he⟩, hit, hne⟩ := st
    obtain ⟨xs, hq, hx⟩ := hg
    obtain ⟨its, rv, p, hz⟩ := I.tuple hq
    obtain ⟨f0, f1, f2, f3, f4, f5⟩ := hf it (by simp)
    have hl := rv.length
    have hT0 : s.heap.IsTuple a its.toArray := isTuple_of p
    have hai : a ≠ it := fun z => by
      obtain ⟨o1, q1, q2, _⟩ := hT0
      obtain ⟨o2, q3, q4, _⟩ := hit
      rw [z, q3] at q1; cases q1; rw [q2] at q4; exact absurd (Value.type.inj q4) (by decide)
    have hn : its.toArray.size = i := by rw [List.size_toArray]; omega
    refine wpAny_pyNext_enum_endD (draws_tuple (A := X.A.in1) (I.ok.hd hc) it a hai its.toArray) he (by rw [hn]; exact ⟨hit, hT0⟩) fun h' eb => ⟨rfl, I.turned (t' := s.toks) (fun b o hb q => eb b o hb q) f0 f1 f3 f4 f5⟩
  self := fun A i s Q E st h => let ⟨⟨_, he⟩, _⟩ := st; wpAny_pyIter_enum he h
theorem pi_enumT {X : Cx} {e : Ex} {ta : TA} {p pos tpos : Pos} {elts : List Ex} {kk : Nat} (hg : Gl X "enumerate") (hm : X.mg "enumerate" = none) (ha : PA X [e] ta) (hs : starEach [e] X.env = [(false, eval e X.env)] := by rfl) :
    PI X (.Tuple elts kk tpos) (.Call (.Name "enumerate" p) [e] [] pos) (fun σ H R => ta σ H fun vs H1 => ∃ a xs, vs = [.ref a] ∧ SqT X.K H1 a xs ∧ R (IteT X.K a) H1) := by
  refine ⟨fun pins s σ H R I h => ?_⟩
  refine Call_ (ld_blt I hg hm boot_enumerate (PyProof.Rows.callWith_type1 (thn (ha.run pos pins s σ H _ I h) fun us s1 ⟨vs, H1, I1, r1, q1⟩ => ?_) hs rfl))
  obtain ⟨a, xs, ex, hq, q⟩ := q1
  subst ex
  cases r1 with
  | cons r rr =>
    cases rr
    cases r
    obtain ⟨its, rv, p', hz⟩ := I1.tuple hq
    refine call_enumerate_tuple (isTuple_of p') fun h' he hit hsz hk => wpAny_pyIter_enum he ?_
    have I2 : Inv X pins σ H1 { s1 with heap := h' } := I1.kept (t' := s1.toks) hk
    refine ⟨s1.heap.objs.size + 1, [s1.heap.objs.size + 1, s1.heap.objs.size], _, _, H1, rfl, I2, turn_enumT a (s1.heap.objs.size + 1) s1.heap.objs.size, ⟨⟨.none, he⟩, hit, Nat.succ_ne_self _⟩, fun b hb => ?_, q⟩
    have e' : b = s1.heap.objs.size + 1 ∨ b = s1.heap.objs.size := by simpa using hb
    have hle : s1.heap.objs.size ≤ b := by
      rcases e' with z | z
      · rw [z]; exact Nat.le_add_right _ _
      · rw [z]; exact Nat.le_refl _
    exact I1.fpOk hle (I1.hok.fresh hle)
section
variable {X : Cx} {Γ Γ1 : Gm} {e : Ex} {p pos tpos : Pos} {elts : List Ex} {kk : Nat} {ds : List D}
def itE (ds : List D) : Nat → D := fun i => .tup [.int (i : Nat), itd ds i]
theorem it_enumT (hm : X.mg "enumerate" = none) (h : AX X Γ [e] [.tup ds] Γ1) (hg : Gl X "enumerate" := by rfl) (hs : starEach [e] X.env = [(false, eval e X.env)] := by rfl) : IterX X (.Tuple elts kk tpos) (.Call (.Name "enumerate" p) [e] [] pos) Γ ds.length (itE ds) Γ1 :=
  ⟨_, pi_enumT hg hm wa_pa hs, fun F σ H S R' R q => h F σ H S _ R fun vs H1 S1 R1 s1 ok => by
    obtain ⟨v, rfl, l, us, rfl, h1, h2⟩ := reps1 ok
    refine ⟨l, us, rfl, same_sqt R1.sh h1, q _ H1 S1 R1 s1 fun i H' sH => ?_⟩
    have hq : SqT X.K H' l us := same_sqt sH h1
    refine ⟨fun hi => ⟨us, us[i]'(by rw [← h2.length]; exact hi), hq, List.getElem?_eq_getElem _⟩, fun hi => ⟨us, hq, by rw [← h2.length]; exact hi.symm⟩, fun x H2 hi y => ?_⟩
    obtain ⟨T, z, rfl, nT, rfl, hz⟩ := y
    exact .inr ⟨T, _, _, rfl, nT, rfl, rfl, fun S' sS => .cons rfl (.cons (Rep.mono sS _ _ (itd_rep h2 (hz us hq))) .nil)⟩⟩
theorem it_enumL (hm : X.mg "enumerate" = none) (h : AX X Γ [e] [.lst ds] Γ1) (hg : Gl X "enumerate" := by rfl) (hs : starEach [e] X.env = [(false, eval e X.env)] := by rfl) : IterX X (.Tuple elts kk tpos) (.Call (.Name "enumerate" p) [e] [] pos) Γ ds.length (itE ds) Γ1 :=
  ⟨_, pi_enum hg hm wa_pa hs, fun F σ H S R' R q => h F σ H S _ R fun vs H1 S1 R1 s1 ok => by
    obtain ⟨v, rfl, l, us, rfl, h1, h2⟩ := reps1 ok
    refine ⟨l, us, rfl, .of (R1.sh _ _ h1), q _ H1 S1 R1 s1 fun i H' sH => ?_⟩
    have hq : SqL X.K H' l us := .of (sH _ _ h1)
    refine ⟨fun hi => ⟨us, us[i]'(by rw [← h2.length]; exact hi), hq, List.getElem?_eq_getElem _⟩, fun hi => ⟨us, hq, by rw [← h2.length, hi]; exact Nat.le_refl _⟩, fun x H2 hi y => ?_⟩
    obtain ⟨T, z, rfl, nT, rfl, hz⟩ := y
    exact .inr ⟨T, _, _, rfl, nT, rfl, rfl, fun S' sS => .cons rfl (.cons (Rep.mono sS _ _ (itd_rep h2 (hz us hq))) .nil)⟩⟩
end
end PL

set_option Elab.async false
set_option linter.all false
set_option maxRecDepth 100000
set_option maxHeartbeats 4000000
namespace PL
open PySem PySem.Spec PyProof.Rows L2
/-! ### names of built-ins that stand free -/
def bltNames : List Str := ["isinstance", "int", "bool", "str", "tuple", "list", "dict", "set", "len", "range", "enumerate", "zip", "sum", "all", "any", "abs", "max", "min", "divmod", "sorted", "reversed", "type", "repr", "ValueError", "IndexError", "KeyError", "LookupError", "ZeroDivisionError", "Exception"]
def Bt (mg : Str → Option Value) : Prop := ∀ x ∈ bltNames, mg x = none
theorem b_isinstance : bootBuiltins "isinstance" = some (.builtin "isinstance") := by decide +kernel
theorem b_len : bootBuiltins "len" = some (.builtin "len") := by decide +kernel
theorem b_sum : bootBuiltins "sum" = some (.builtin "sum") := by decide +kernel
theorem b_all : bootBuiltins "all" = some (.builtin "all") := by decide +kernel
theorem b_any : bootBuiltins "any" = some (.builtin "any") := by decide +kernel
theorem b_abs : bootBuiltins "abs" = some (.builtin "abs") := by decide +kernel
theorem b_max : bootBuiltins "max" = some (.builtin "max") := by decide +kernel
theorem b_min : bootBuiltins "min" = some (.builtin "min") := by decide +kernel
theorem b_divmod : bootBuiltins "divmod" = some (.builtin "divmod") := by decide +kernel
theorem b_sorted : bootBuiltins "sorted" = some (.builtin "sorted") := by decide +kernel
theorem b_int : bootBuiltins "int" = some (.type "int") := by decide +kernel
theorem b_bool : bootBuiltins "bool" = some (.type "bool") := by decide +kernel
theorem b_str : bootBuiltins "str" = some (.type "str") := by decide +kernel
theorem b_tuple : bootBuiltins "tuple" = some (.type "tuple") := by decide +kernel
theorem b_list : bootBuiltins "list" = some (.type "list") := by decide +kernel
theorem b_dict : bootBuiltins "dict" = some (.type "dict") := by decide +kernel
theorem b_set : bootBuiltins "set" = some (.type "set") := by decide +kernel
section
variable {mg : Str → Option Value} (T : Bt mg)
include T
theorem Bt.isinstance : mg "isinstance" = none := T _ (by decide)
theorem Bt.int : mg "int" = none := T _ (by decide)
theorem Bt.bool : mg "bool" = none := T _ (by decide)
theorem Bt.str : mg "str" = none := T _ (by decide)
theorem Bt.tuple : mg "tuple" = none := T _ (by decide)
theorem Bt.list : mg "list" = none := T _ (by decide)
theorem Bt.dict : mg "dict" = none := T _ (by decide)
theorem Bt.set : mg "set" = none := T _ (by decide)
theorem Bt.len : mg "len" = none := T _ (by decide)
theorem Bt.range : mg "range" = none := T _ (by decide)
theorem Bt.enumerate : mg "enumerate" = none := T _ (by decide)
theorem Bt.sum : mg "sum" = none := T _ (by decide)
theorem Bt.all : mg "all" = none := T _ (by decide)
theorem Bt.any : mg "any" = none := T _ (by decide)
theorem Bt.abs : mg "abs" = none := T _ (by decide)
theorem Bt.max : mg "max" = none := T _ (by decide)
theorem Bt.min : mg "min" = none := T _ (by decide)
theorem Bt.divmod : mg "divmod" = none := T _ (by decide)
theorem Bt.sorted : mg "sorted" = none := T _ (by decide)
end
section
variable {X : Cx} {Γ Γ1 Γ2 Γ3 : Gm} {e a b c : Ex} {pos : Pos} {d d1 d2 d3 : D} {r : Rs} {es : List Ex} {k : Nat} {bb : Bool}
theorem e_neg {i : Int} (h : EX X Γ a (.sh (.int i)) Γ1) : EX X Γ (.UnaryOp .USub a pos) (.sh (.int (-i))) Γ1 := fun F σ H S Q R q =>
  pe_we (pe_un un_neg we_pe) (h F σ H S _ R fun v H1 S1 R1 s1 ok => ⟨i, ok, q _ H1 S1 R1 s1 rfl⟩)
/-! ### a chain as a test -/
theorem t_chainF {op op' : CmpOp} {r' : R2} (ho' : OpR X (compareOp op') r') (ho : OpS X (compareOp op) d1 d2 (.sh (.bl false))) (h1 : EX X Γ a (.sh d1) Γ1) (h2 : EX X Γ1 b (.sh d2) Γ2) (hm : lastMarks [op, op'] [b, c] = false := by rfl) : TX X Γ (.Compare a [op, op'] [b, c] pos) false Γ2 := fun F σ H S Q R q => by
  obtain ⟨rr, hr, hq⟩ := ho
  refine pt_wt (pt_chain hr ho' we_pe we_pe we_pe hm) (h1 F σ H S _ R fun x H1 S1 R1 s1 r1 => h2 F σ H1 S1 _ R1 fun y H2 S2 R2 s2 r2 => hq Γ2 F σ H2 S2 x y _ R2 (Rep.mono s2 _ _ r1) r2 fun v H3 S3 R3 s3 ok => ⟨false, ok, iteF ⟨false, rfl, q H3 S3 R3 ((s1.trans s2).trans s3)⟩⟩)
theorem t_chainT {op op' : CmpOp} (ho : OpS X (compareOp op) d1 d2 (.sh (.bl true))) (ho' : OpS X (compareOp op') d2 d3 (.sh (.bl bb))) (h1 : EX X Γ a (.sh d1) Γ1) (h2 : EX X Γ1 b (.sh d2) Γ2) (h3 : EX X Γ2 c (.sh d3) Γ3) (hm : lastMarks [op, op'] [b, c] = false := by rfl) : TX X Γ (.Compare a [op, op'] [b, c] pos) bb Γ3 := fun F σ H S Q R q => by
  obtain ⟨rr, hr, hq⟩ := ho
  obtain ⟨rr', hr', hq'⟩ := ho'
  refine pt_wt (pt_chain hr hr' we_pe we_pe we_pe hm) (h1 F σ H S _ R fun x H1 S1 R1 s1 r1 => h2 F σ H1 S1 _ R1 fun y H2 S2 R2 s2 r2 => hq Γ2 F σ H2 S2 x y _ R2 (Rep.mono s2 _ _ r1) r2 fun v H3 S3 R3 s3 ok => ⟨true, ok, iteT ?_⟩)
  exact h3 F σ H3 S3 _ R3 fun z H4 S4 R4 s4 r4 => hq' Γ3 F σ H4 S4 y z _ R4 (Rep.mono (s3.trans s4) _ _ r2) r4 fun v H5 S5 R5 s5 ok => ⟨bb, ok, q H5 S5 R5 ((((s1.trans s2).trans s3).trans s4).trans s5)⟩
/-- two ints' chain, both links <= -/
theorem e_chainI {i j l : Int} (h1 : EX X Γ a (.sh (.int i)) Γ) (h2 : EX X Γ b (.sh (.int j)) Γ) (h3 : EX X Γ c (.sh (.int l)) Γ) (hm : lastMarks [.LtE, .LtE] [b, c] = false := by rfl) : EX X Γ (.Compare a [.LtE, .LtE] [b, c] pos) (.sh (.bl (decide (i ≤ j) && decide (j ≤ l)))) Γ := by
  by_cases h : i ≤ j
  · rw [decide_eq_true h, Bool.true_and]
    exact e_chainT (by have z := o_le (X := X) (i := i) (j := j); rw [decide_eq_true h] at z; exact z) o_le h1 h2 h3 hm
  · rw [decide_eq_false h, Bool.false_and]
    exact e_chainF op_le (by have z := o_le (X := X) (i := i) (j := j); rw [decide_eq_false h] at z; exact z) h1 h2 hm
/-! ### x += e -/
def InpS (X : Cx) (op : Operator) (d1 d2 d : D) : Prop := ∃ rr, PIp X op rr ∧ ∀ Γ F σ H S x y (Q : VK), RS X.K F Γ σ H S → Rep X.K S d1 x → Rep X.K S d2 y → (∀ v H' S', RS X.K F Γ σ H' S' → Same S S' → Rep X.K S' d v → Q v H') → rr x y H Q
theorem ip_addI {i j : Int} : InpS X .Add (.int i) (.int j) (.int (i + j)) := ⟨_, ip_add, fun Γ F σ H S x y Q R r1 r2 q => ⟨i, j, r1, r2, q _ H S R (.refl _) rfl⟩⟩
theorem s1_aug (i : Nat) {x : Str} {op : Operator} {pos' : Pos} (g : X.N.Nodup) (hp : InpS X op d1 d2 d) (h0 : Γ[i]? = some (.sh d1)) (h : EX X Γ e (.sh d2) Γ1) (hl : i < Γ1.length := by exact Nat.le_of_ble_eq_true rfl) (hi : X.N[i]? = some x := by rfl) (hx : Loc X.env.scope x := by first | exact Or.inl rfl | exact Or.inr rfl)
    (hf : X.fn x = true ∨ X.env.scope.names.lookup x = some .local := by first | exact .inl rfl | exact .inr rfl | assumption) : S1 X Γ (.AugAssign (.Name x pos') op e pos) (.nx (Γ1.set i (.sh d))) := fun F σ H S D R q => by
  obtain ⟨rr, hr, hq⟩ := hp
  obtain ⟨v0, e0, r0⟩ := R.sl i _ h0
  refine ps_w1 (ps_aug g hi hx we_pe hr hf) ⟨v0, e0, h F σ H S _ R fun y H1 S1 R1 s1 r1 => hq Γ1 F σ H1 S1 v0 y _ R1 (Rep.mono s1 _ _ r0) r1 fun z H2 S2 R2 s2 r2 => q _ H2 S2 (R2.put (r := .sh d) hl r2 (fun _ z => by cases z)) (s1.trans s2)⟩
/-! ### o.f = e: a new field of the object that slot n owns -/
theorem putF_new {f : Str} {v : V} : ∀ {ns : List Str} {vs : List V}, ns.length = vs.length → f ∉ ns → putF f v (ns.zip vs) = (ns ++ [f]).zip (vs ++ [v])
  | [], [], _, _ => rfl
  | n :: ns, u :: vs, hl, hn => by
    have h1 : n ≠ f := fun e => hn (by rw [e]; exact List.mem_cons_self ..)
    show putF f v ((n, u) :: ns.zip vs) = (n, u) :: (ns ++ [f]).zip (vs ++ [v])
    rw [← putF_new (f := f) (v := v) (ns := ns) (vs := vs) (by simpa using hl) fun h => hn (List.mem_cons_of_mem _ h)]
    show (if n = f then (n, v) :: ns.zip vs else (n, u) :: putF f v (ns.zip vs)) = _
    rw [if_neg h1]
theorem s1_fld {n : Nat} {s : Sl} {C : Addr} {ns : List Str} {ds : List D} {x f : Str} {p pos' : Pos} (hc : Cls X.K C) (hna : NoAttr X.K C f) (h : EX X Γ e (.sh d) Γ1) (h1 : Has Γ1 n s (.ins C ns ds)) (hf : f ∉ ns) (hz : ns.length < 1000) (hN : X.N[n]? = some x := by rfl) (hv : Vis X.env.scope x := by first | exact Or.inl rfl | exact Or.inr (Or.inl rfl) | exact Or.inr (Or.inr rfl)) (hd : (x == ("__debug__" : Str)) = false := by decide)
    (hcd : (x == ("__classdict__" : Str)) = false := by decide) (hs : swapsWith e (some (.Attribute (.Name x p) f pos')) pos.line X.env = pure false := by rfl) : S1 X Γ (.Assign [.Attribute (.Name x p) f pos'] e pos) (.nx (Γ1.set n (s.re (.ins C (ns ++ [f]) (ds ++ [d]))))) := fun F σ H S D R q =>
  ps_w1 (ps_fld (pe_var hN hv hd hcd) we_pe hs) (h F σ H S _ R fun y H1 S1 R1 s1 ok => by
    obtain ⟨l, own, dx, vs, hl, hlen, rp⟩ := R1.has h1
    refine ⟨_, own.2, l, C, dx, _, rfl, hl, hc, hna, ?_, q σ _ S1 (R1.chg own h1.1 ⟨dx, vs ++ [y], ?_, ?_, rp.append (.one ok)⟩) s1⟩
    · rw [List.length_zip]; omega
    · rw [upd_same, putF_new hlen hf]
    · rw [List.length_append, List.length_append, hlen]; rfl)
/-! ### a call of the def that a slot holds -/
theorem pe_callSlot {CX : CXT} {j : Nat} {f : Addr} {fd : FuncData} {ps : List Str} {sp : Sp} {E : XK} {i : Nat} {x : Str} {p : Pos} {t : TA} (F : FnOk X.prog X.w X.K X.mg X.base CX j f fd ps sp) (hr : Room j X.A) (hk : PySem.W.keepIn X.K (.ref f) = true) (hb : Binds X.K fd ps []) (hx : Passes CX X E) (hN : X.N[i]? = some x) (hv : Vis X.env.scope x) (hd : (x == ("__debug__" : Str)) = false) (hcd : (x == ("__classdict__" : Str)) = false)
    (ha : PA X (e :: es) t) (he : starEach (e :: es) X.env = (false, eval e X.env) :: starEach es X.env := by rfl) (hpl : (backTo pos (starEach es X.env)).any (·.1) = false := by rfl) :
    PE X (.Call (.Name x p) (e :: es) [] pos) (fun σ H Q => σ[i]? = some (some (.ref f)) ∧ t σ H fun vs H1 => sp vs H1 Q E) := by
  refine ⟨fun pins s σ H Q I h => ?_⟩
  refine wpAny_Call_Name_kw (thn ((pe_var hN hv hd hcd).run pins s σ H (fun v H' => v = .ref f ∧ H' = H) I ⟨_, h.1, rfl, rfl⟩) fun u s1 ⟨v, H1, I1, rv, ev, eH⟩ => ?_)
  subst ev eH
  obtain rfl : u = Value.ref f := rv
  refine PySem.W.callWith_K (h₀ := X.base) I.ok.mod.kin hk (thn (ha.run pos pins s1 σ H1 _ I1 h.2) fun us s2 ⟨vs, H2, I2, r, q⟩ => ⟨I2.kIn, ?_⟩) he hpl
  exact run_fn (dvs := []) (ds := []) F hr hb .nil hx I2 r (by rw [List.append_nil]; exact q)
theorem e_callSlot {P : List D → Rs → Prop} {j : Nat} {f : Addr} {fd : FuncData} {ps : List Str} {i : Nat} {x : Str} {p : Pos} {ds : List D} (Fo : FnOk X.prog X.w X.K X.mg X.base (L2.CX X.prog X.w) j f fd ps (sp0 X.K P)) (hkp : PySem.W.keepIn X.K (.ref f) = true) (hb : Binds X.K fd ps []) (g : Gd k X) (h0 : Γ[i]? = some (.sh (.raw (.ref f)))) (hp : P ds r) (ha : AX X Γ (e :: es) ds Γ1) (hk : j ≤ k := by decide)
    (hN : X.N[i]? = some x := by rfl) (hv : Vis X.env.scope x := by first | exact Or.inl rfl | exact Or.inr (Or.inl rfl) | exact Or.inr (Or.inr rfl)) (hd : (x == ("__debug__" : Str)) = false := by decide) (hcd : (x == ("__classdict__" : Str)) = false := by decide)
    (he : starEach (e :: es) X.env = (false, eval e X.env) :: starEach es X.env := by rfl) (hpl : (backTo pos (starEach es X.env)).any (·.1) = false := by rfl) : EX X Γ (.Call (.Name x p) (e :: es) [] pos) r Γ1 := fun F σ H S Q R q => by
  obtain ⟨v0, e0, rfl⟩ := R.sl i _ h0
  exact pe_we (pe_callSlot (E := E0) Fo (g.rm.mono hk) hkp hb passL hN hv hd hcd wa_pa he hpl) ⟨e0, ha F σ H S _ R fun vs H1 S1 R1 s1 ok => ⟨S1, ds, r, hp, R1.sh, ok, fun v H2 S2 t => by
    obtain ⟨R2, ok2⟩ := R1.after0 t
    exact q v H2 S2 R2 (s1.trans t.ss) ok2⟩⟩
/-! ### a table of the top with text keys -/
theorem o_inK {dd : Addr} {es' : Array DictEntry} {n : Nat} {z : Str} {u : Option Value} (D : KDict X.K X.w dd es' n) (h : PySem.W.nsIn X.K dd z = some u) : OpS X (compareOp .In) (.str z) (.raw (.ref dd)) (.sh (.bl u.isSome)) :=
  ops_sc (op_in_kd D) (.bl _) (fun _ => rfl) fun H S x y Q _ r1 r2 q => ⟨z, u, r1, r2, h, q⟩
theorem i_K {dd : Addr} {z : Str} {v : V} (h : KDct X.K X.w dd z v) (hv : ∀ S, Rep X.K S d v) : IxS X (.raw (.ref dd)) (.str z) (.sh d) := ⟨_, ix_kdict, fun Γ F σ H S x y Q R r1 r2 q => ⟨dd, z, v, r1, r2, h, q v H S R (.refl _) (hv S)⟩⟩
/-! ### while -/
theorem WT_mono {σ : L2.St} {H : Hp} {Q Q' : Bool → Hp → Prop} (h : ∀ b H1, Q b H1 → Q' b H1) (w : WT X c σ H Q) : WT X c σ H Q' := fun pins s I => thn (w pins s I) fun b s' ⟨H1, I1, q⟩ => ⟨H1, I1, h b H1 q⟩
theorem s1_while (g : Gd k X) {body : List Stmt} (n : Nat) (G B : Nat → Gm) (hc : ∀ i, i < n → TX X (G i) c true (B i)) (hb : ∀ i, i < n → SX X (B i) body (.nx (G (i + 1))) ∨ SX X (B i) body (.ct (G (i + 1)))) (he : TX X (G n) c false Γ1) : S1 X (G 0) (.While c body [] pos) (.nx Γ1) := fun F σ H S D R q => by
  refine ps_w1 (ps_while g.po wt_pt ws_pss) ⟨fun m σ' H' => ∃ i, i ≤ n ∧ m = n - i ∧ ∃ S', RS X.K F (G i) σ' H' S' ∧ Same S S', ⟨n, 0, Nat.zero_le _, rfl, S, R, .refl _⟩, ?_⟩
  rintro m σ' H' ⟨i, hi, rfl, S', R', s'⟩
  by_cases hlt : i < n
  · refine hc i hlt F σ' H' S' _ R' fun H2 S2 R2 s2 => ?_
    refine ⟨fun σ3 H3 => ∃ S3, RS X.K F (G (i + 1)) σ3 H3 S3 ∧ Same S S3, fun σ3 H3 ⟨S3, R3, s3⟩ => ⟨n - (i + 1), by omega, i + 1, hlt, rfl, S3, R3, s3⟩, ?_⟩
    rcases hb i hlt with hb | hb
    · exact hb F σ' H2 S2 _ R2 fun σ3 H3 S3 R3 s3 => ⟨S3, R3, (s'.trans s2).trans s3⟩
    · exact hb F σ' H2 S2 _ R2 fun σ3 H3 S3 R3 s3 => ⟨S3, R3, (s'.trans s2).trans s3⟩
  · obtain rfl : i = n := by omega
    exact he F σ' H' S' _ R' fun H2 S2 R2 s2 => q σ' H2 S2 R2 (s'.trans s2)
end
/-! ### isinstance of plain data -/
def isInt : D → Bool
  | .int _ | .bl _ => true
  | _ => false
def isBool : D → Bool
  | .bl _ => true
  | _ => false
def isStr : D → Bool
  | .str _ => true
  | _ => false
def isTup : D → Bool
  | .tup _ => true
  | _ => false
def isLst : D → Bool
  | .lst _ => true
  | _ => false
theorem kit_tys : ∀ t ∈ ["NoneType", "bool", "int", "str", "tuple", "list", "dict"], kitB t "int" = some (t == "int" || t == "bool") ∧ kitB t "bool" = some (t == "bool") ∧ kitB t "str" = some (t == "str") ∧ kitB t "tuple" = some (t == "tuple") ∧ kitB t "list" = some (t == "list") := by decide +kernel
section
variable {X : Cx} {d : D}
theorem ty_mem (hp : d.plain = true) : d.ty ∈ ["NoneType", "bool", "int", "str", "tuple", "list", "dict"] := by
  cases d <;> first | cases hp; done | simp [D.ty]
theorem c_isInt (hp : d.plain = true) : CallS X (.builtin "isinstance") [d, .raw (.ty "int")] (.sh (.bl (isInt d))) := by
  have h := (kit_tys d.ty (ty_mem hp)).1
  have e : (d.ty == "int" || d.ty == "bool") = isInt d := by cases d <;> first | rfl | cases hp
  rw [e] at h
  exact c_isi h hp
theorem c_isBool (hp : d.plain = true) : CallS X (.builtin "isinstance") [d, .raw (.ty "bool")] (.sh (.bl (isBool d))) := by
  have h := (kit_tys d.ty (ty_mem hp)).2.1
  have e : (d.ty == "bool") = isBool d := by cases d <;> first | rfl | cases hp
  rw [e] at h
  exact c_isi h hp
theorem c_isStr (hp : d.plain = true) : CallS X (.builtin "isinstance") [d, .raw (.ty "str")] (.sh (.bl (isStr d))) := by
  have h := (kit_tys d.ty (ty_mem hp)).2.2.1
  have e : (d.ty == "str") = isStr d := by cases d <;> first | rfl | cases hp
  rw [e] at h
  exact c_isi h hp
theorem c_isTup (hp : d.plain = true) : CallS X (.builtin "isinstance") [d, .raw (.ty "tuple")] (.sh (.bl (isTup d))) := by
  have h := (kit_tys d.ty (ty_mem hp)).2.2.2.1
  have e : (d.ty == "tuple") = isTup d := by cases d <;> first | rfl | cases hp
  rw [e] at h
  exact c_isi h hp
theorem c_isLst (hp : d.plain = true) : CallS X (.builtin "isinstance") [d, .raw (.ty "list")] (.sh (.bl (isLst d))) := by
  have h := (kit_tys d.ty (ty_mem hp)).2.2.2.2
  have e : (d.ty == "list") = isLst d := by cases d <;> first | rfl | cases hp
  rw [e] at h
  exact c_isi h hp
end
theorem ends_rt {X : Cx} {Γ Γ' : Gm} {body : List Stmt} {r : Rs} (h : SX X Γ body (.rt r Γ')) : ∃ Γ', Ends1 X Γ body r Γ' := ⟨Γ', .inl h⟩
theorem ends_nx {X : Cx} {Γ Γ' : Gm} {body : List Stmt} (h : SX X Γ body (.nx Γ')) : ∃ Γ', Ends1 X Γ body (.sh .non) Γ' := ⟨Γ', .inr ⟨rfl, h⟩⟩
end PL

set_option Elab.async false
set_option linter.all false
set_option maxRecDepth 100000
set_option maxHeartbeats 4000000
namespace PL
open PySem PySem.Spec PyProof.Rows L2
theorem Wk.nil : Wk [] [] := .refl _
theorem Wk.keep {s : Sl} {Γ Γ' : Gm} (h : Wk Γ Γ') : Wk (s :: Γ) (s :: Γ') := ⟨by rw [List.length_cons, List.length_cons, h.1], fun i t e => by
  cases i with
  | zero => exact .inr e
  | succ i => exact h.2 i t (by simpa using e)⟩
theorem Wk.drop {s : Sl} {Γ Γ' : Gm} (h : Wk Γ Γ') : Wk (s :: Γ) (.un :: Γ') := ⟨by rw [List.length_cons, List.length_cons, h.1], fun i t e => by
  cases i with
  | zero => cases e; exact .inl rfl
  | succ i => exact h.2 i t (by simpa using e)⟩
theorem took_all {f : Nat → D} {n : Nat} : took (fun _ => true) f n = (List.range n).map f := by
  unfold took
  rw [List.filter_eq_self.mpr fun _ _ => rfl]
section
variable {X : Cx} {Γ Γ1 : Gm} {iter elt c : Ex} {scope : Scope} {pos px : Pos} {n k : Nat} {it f : Nat → D} {t : Nat → Bool} {x : Str}
theorem unAt1 {i : Nat} (h : Γ[i]? = some .un) : UnAt Γ [i] := fun j hj s e => by
  rw [List.mem_singleton.mp hj, h] at e
  exact (Option.some.inj e).symm
/-- a block that changes slots by turns: its target is one name -/
theorem lcG (i : Nat) (G : Nat → Gm) (Be : Nat → Gm) (gd : Gd k X) (hI : IterX X (.Name x px) iter Γ n it Γ1) (hn : n ≤ sizeLine) (ok : BlkOk X.N X.env.scope scope [(x, i)]) (h0 : Cv X.K Γ1 (G 0)) (hu : ∀ j, j ≤ n → (G j)[i]? = some .un)
    (he : ∀ j, j < n → ∀ s H C cl fp, EX (bk X scope s H C cl fp) ((G j).set i (.sh (it j))) elt (.sh (f j)) (Be j)) (hT : ∀ j, j < n → Cv X.K (Be j) (G (j + 1))) (hi : X.N[i]? = some x := by rfl) (hx : ∀ s H C cl fp, Loc (bk X scope s H C cl fp).env.scope x := by exact fun _ _ _ _ _ => Or.inl rfl)
    (hf : ∀ s H C cl fp, (bk X scope s H C cl fp).fn x = true ∨ (bk X scope s H C cl fp).env.scope.names.lookup x = some .local := by exact fun _ _ _ _ _ => Or.inr rfl) : LcX X Γ (.Name x px) iter [] elt scope [(x, i)] n (fun _ => true) f (G n) :=
  ⟨it, Γ1, gName i, G, fun j => (G j).set i (.sh (it j)), fun j => (G j).set i (.sh (it j)), Be, hn, hI, ok, h0, fun j hj => unAt1 (hu j hj), fun s H C cl fp => pg_name gd.nd hi (hx s H C cl fp) (hf s H C cl fp),
    fun j hj => tgt_name i (List.mem_singleton.mpr rfl) (List.getElem?_eq_some_iff.mp (hu j (Nat.le_of_lt hj))).1, .inl ⟨rfl, fun _ => rfl, rfl⟩, fun j hj _ => he j hj, fun j hj _ => hT j hj, fun _ _ z => Bool.noConfusion z, rfl⟩
theorem cv_reset {K : PySem.W.Frag} {i : Nat} {d : D} (h : Γ[i]? = some .un) : Cv K (Γ.set i (.sh d)) Γ := Wk.cv ⟨by rw [List.length_set], fun j s e => by
  by_cases hj : j = i
  · subst hj; rw [h] at e; exact .inl (Option.some.inj e).symm
  · rw [List.getElem?_set_ne (Ne.symm hj)]; exact .inr e⟩
/-- a block without effect -/
theorem e_lc1 (i : Nat) (f : Nat → D) (gd : Gd k X) (hI : IterX X (.Name x px) iter Γ n it Γ1) (hn : n ≤ sizeLine) (ok : BlkOk X.N X.env.scope scope [(x, i)]) (hu : Γ1[i]? = some .un)
    (he : ∀ j, j < n → ∀ s H C cl fp, EX (bk X scope s H C cl fp) (Γ1.set i (.sh (it j))) elt (.sh (f j)) (Γ1.set i (.sh (it j)))) (hs : ∀ x, foldedSetIterable iter X.env x = pure x := by intro _; rfl) (hi : X.N[i]? = some x := by rfl) (hx : ∀ s H C cl fp, Loc (bk X scope s H C cl fp).env.scope x := by exact fun _ _ _ _ _ => Or.inl rfl)
    (hf : ∀ s H C cl fp, (bk X scope s H C cl fp).fn x = true ∨ (bk X scope s H C cl fp).env.scope.names.lookup x = some .local := by exact fun _ _ _ _ _ => Or.inr rfl) : EX X Γ (.ListComp elt [⟨.Name x px, iter, [], 0⟩] scope pos) (.ow (.lst ((List.range n).map f))) Γ1 := by
  rw [← took_all]
  exact e_lc gd (lcG i (fun _ => Γ1) (fun j => Γ1.set i (.sh (it j))) gd hI hn ok .refl (fun _ _ => hu) he (fun j _ => cv_reset hu) hi hx hf) hs
/-- .. with a test, without effect -/
theorem lcIf (i : Nat) (gd : Gd k X) (hI : IterX X (.Name x px) iter Γ n it Γ1) (hn : n ≤ sizeLine) (ok : BlkOk X.N X.env.scope scope [(x, i)]) (hu : Γ1[i]? = some .un)
    (ht : ∀ j, j < n → ∀ s H C cl fp, TX (bk X scope s H C cl fp) (Γ1.set i (.sh (it j))) c (t j) (Γ1.set i (.sh (it j))))
    (he : ∀ j, j < n → t j = true → ∀ s H C cl fp, EX (bk X scope s H C cl fp) (Γ1.set i (.sh (it j))) elt (.sh (f j)) (Γ1.set i (.sh (it j)))) (hi : X.N[i]? = some x := by rfl) (hx : ∀ s H C cl fp, Loc (bk X scope s H C cl fp).env.scope x := by exact fun _ _ _ _ _ => Or.inl rfl)
    (hf : ∀ s H C cl fp, (bk X scope s H C cl fp).fn x = true ∨ (bk X scope s H C cl fp).env.scope.names.lookup x = some .local := by exact fun _ _ _ _ _ => Or.inr rfl) : LcX X Γ (.Name x px) iter [c] elt scope [(x, i)] n t f Γ1 :=
  ⟨it, Γ1, gName i, fun _ => Γ1, fun j => Γ1.set i (.sh (it j)), fun j => Γ1.set i (.sh (it j)), fun j => Γ1.set i (.sh (it j)), hn, hI, ok, .refl, fun j hj => unAt1 hu, fun s H C cl fp => pg_name gd.nd hi (hx s H C cl fp) (hf s H C cl fp),
    fun j hj => tgt_name i (List.mem_singleton.mpr rfl) (List.getElem?_eq_some_iff.mp hu).1, .inr ⟨c, rfl, ht⟩, he, fun j hj _ => cv_reset hu, fun j hj _ => cv_reset hu, rfl⟩
/-! ### for x in ..: if c: return e -/
theorem s1_findN (i : Nat) (gd : Gd k X) {tb : List Stmt} {ep : Pos} (hI : IterX X (.Name x px) iter Γ n it Γ1) (hu : Γ1[i]? = some .un) (ht : ∀ j, j < n → TX X (Γ1.set i (.sh (it j))) c false (Γ1.set i (.sh (it j)))) (hs : ∀ x, foldedSetIterable iter X.env x = pure x := by intro _; rfl) (hi : X.N[i]? = some x := by rfl) (hx : Loc X.env.scope x := by first | exact Or.inl rfl | exact Or.inr rfl)
    (hf : X.fn x = true ∨ X.env.scope.names.lookup x = some .local := by first | exact .inl rfl | exact .inr rfl | assumption) : S1 X Γ (.For (.Name x px) iter [.If c tb [] ep] [] pos) (.nx Γ1) :=
  s1_for gd hI (fun _ => Γ1) (fun j => Γ1.set i (.sh (it j))) .refl (fun j hj => g_name i gd.nd (List.getElem?_eq_some_iff.mp hu).1 hi hx hf) (fun j hj => .inl (s_wk (s_ifN (ht j hj) s_nil) (cv_reset hu))) hs
theorem s1_findS (i m : Nat) (gd : Gd k X) {tb : List Stmt} {ep : Pos} {r : Rs} {Γ2 : Gm} (hI : IterX X (.Name x px) iter Γ n it Γ1) (hu : Γ1[i]? = some .un) (hm : m < n) (ht : ∀ j, j < m → TX X (Γ1.set i (.sh (it j))) c false (Γ1.set i (.sh (it j)))) (hT : TX X (Γ1.set i (.sh (it m))) c true (Γ1.set i (.sh (it m))))
    (hr : SX X (Γ1.set i (.sh (it m))) tb (.rt r Γ2)) (hs : ∀ x, foldedSetIterable iter X.env x = pure x := by intro _; rfl) (hi : X.N[i]? = some x := by rfl) (hx : Loc X.env.scope x := by first | exact Or.inl rfl | exact Or.inr rfl)
    (hf : X.fn x = true ∨ X.env.scope.names.lookup x = some .local := by first | exact .inl rfl | exact .inr rfl | assumption) : S1 X Γ (.For (.Name x px) iter [.If c tb [] ep] [] pos) (.rt r Γ2) :=
  s1_forX m gd hI (fun _ => Γ1) (fun j => Γ1.set i (.sh (it j))) .refl hm (fun j hj => g_name i gd.nd (List.getElem?_eq_some_iff.mp hu).1 hi hx hf) (fun j hj => .inl (s_wk (s_ifN (ht j hj) s_nil) (cv_reset hu))) (s_ifTE hT hr) (.inl ⟨r, Γ2, rfl, rfl⟩) hs
/-- the first place at which something holds -/
theorem first_or {n : Nat} (t : Nat → Bool) : (∃ m, m < n ∧ t m = true ∧ ∀ j, j < m → t j = false) ∨ ∀ j, j < n → t j = false := by
  induction n with
  | zero => exact .inr fun j hj => absurd hj (Nat.not_lt_zero _)
  | succ n ih =>
    rcases ih with ⟨m, h1, h2, h3⟩ | h
    · exact .inl ⟨m, Nat.lt_succ_of_lt h1, h2, h3⟩
    · cases e : t n with
      | true => exact .inl ⟨n, Nat.lt_succ_self _, e, h⟩
      | false =>
        refine .inr fun j hj => ?_
        rcases Nat.lt_succ_iff_lt_or_eq.mp hj with z | z
        · exact h j z
        · rw [z]; exact e
theorem find_firstX {t : Nat → Bool} {n m : Nat} (hm : m < n) (h : t m = true) (hf : ∀ j, j < m → t j = false) : (List.range n).find? t = some m := by
  rw [List.find?_range_eq_some]
  exact ⟨h, List.mem_range.mpr hm, fun j hj => by rw [hf j hj]; rfl⟩
theorem find_noneX {t : Nat → Bool} {n : Nat} (hf : ∀ j, j < n → t j = false) : (List.range n).find? t = none := by
  rw [List.find?_eq_none]
  intro x hx
  rw [hf x (List.mem_range.mp hx)]; decide
/-- for x in ..: if c: return e; then the rest -/
theorem s_search (i : Nat) (t : Nat → Bool) (r : Nat → Rs) (r0 : Rs) (gd : Gd k X) {tb rest : List Stmt} {ep : Pos} (hI : IterX X (.Name x px) iter Γ n it Γ1) (hu : Γ1[i]? = some .un) (ht : ∀ j, j < n → TX X (Γ1.set i (.sh (it j))) c (t j) (Γ1.set i (.sh (it j))))
    (hr : ∀ j, j < n → t j = true → ∃ Γ2, SX X (Γ1.set i (.sh (it j))) tb (.rt (r j) Γ2)) (h0 : ∃ Γ2, SX X Γ1 rest (.rt r0 Γ2)) (hs : ∀ x, foldedSetIterable iter X.env x = pure x := by intro _; rfl) (hi : X.N[i]? = some x := by rfl) (hx : Loc X.env.scope x := by first | exact Or.inl rfl | exact Or.inr rfl)
    (hf : X.fn x = true ∨ X.env.scope.names.lookup x = some .local := by first | exact .inl rfl | exact .inr rfl | assumption) : ∃ Γ2, SX X Γ (.For (.Name x px) iter [.If c tb [] ep] [] pos :: rest) (.rt (((List.range n).find? t).elim r0 r) Γ2) := by
  rcases first_or (n := n) t with ⟨m, hm, h1, h2⟩ | h2
  · obtain ⟨Γ2, h⟩ := hr m hm h1
    refine ⟨Γ2, ?_⟩
    rw [find_firstX hm h1 h2]
    exact s_end (s1_findS i m gd hI hu hm (fun j hj => h2 j hj ▸ ht j (Nat.lt_trans hj hm)) (h1 ▸ ht m hm) h hs hi hx hf)
  · obtain ⟨Γ2, h⟩ := h0
    refine ⟨Γ2, ?_⟩
    rw [find_noneX h2]
    exact s_cons (s1_findN i gd hI hu (fun j hj => h2 j hj ▸ ht j hj) hs hi hx hf) h
theorem e_fz {ds : List D} (h : EX X Γ elt (.ow (.lst ds)) Γ1) : EX X Γ elt (.sh (.lst ds)) Γ1 := e_frz h
theorem e_fo {C : Addr} {ns : List Str} {ds : List D} (h : EX X Γ elt (.ow (.ins C ns ds)) Γ1) : EX X Γ elt (.sh (.obj C ns ds)) Γ1 := e_frz h
theorem e_globS {x z : Str} {t : Tok} (hm : X.mg x = some (.str z t)) (hg : Gl X x := by rfl) (hd : (x == ("__debug__" : Str)) = false := by decide) : EX X Γ (.Name x pos) (.sh (.str z)) Γ := e_glob (v := .str z) hm ⟨_, rfl⟩ (fun _ => rfl) hg hd
theorem e_globI {x : Str} {z : Int} {t : Tok} (hm : X.mg x = some (.int z t)) (hg : Gl X x := by rfl) (hd : (x == ("__debug__" : Str)) = false := by decide) : EX X Γ (.Name x pos) (.sh (.int z)) Γ := e_glob (v := .int z) hm ⟨_, rfl⟩ (fun _ => rfl) hg hd
theorem e_globR {x : Str} {a : Addr} (hm : X.mg x = some (.ref a)) (hg : Gl X x := by rfl) (hd : (x == ("__debug__" : Str)) = false := by decide) : EX X Γ (.Name x pos) (.sh (.raw (.ref a))) Γ := e_glob (v := .ref a) hm rfl (fun _ => rfl) hg hd
theorem ends_ex {Γ : Gm} {body : List Stmt} {r : Rs} (h : ∃ Γ', SX X Γ body (.rt r Γ')) : ∃ Γ', Ends1 X Γ body r Γ' := h.elim fun Γ' h => ⟨Γ', .inl h⟩
theorem s_consE {Γ : Gm} {st : Stmt} {body : List Stmt} {r : Rs} (h1 : S1 X Γ st (.nx Γ1)) (h : ∃ Γ', SX X Γ1 body (.rt r Γ')) : ∃ Γ', SX X Γ (st :: body) (.rt r Γ') := h.elim fun Γ' h => ⟨Γ', s_cons h1 h⟩
theorem s_ex {Γ Γ' : Gm} {body : List Stmt} {r : Rs} (h : SX X Γ body (.rt r Γ')) : ∃ Γ', SX X Γ body (.rt r Γ') := ⟨Γ', h⟩
theorem ends_eq {Γ : Gm} {body : List Stmt} {r r' : Rs} (h : ∃ Γ', Ends1 X Γ body r Γ') (e : r = r') : ∃ Γ', Ends1 X Γ body r' Γ' := e ▸ h
theorem e_eq {r r' : Rs} (h : EX X Γ elt r Γ1) (e : r = r') : EX X Γ elt r' Γ1 := e ▸ h
theorem t_eq {b b' : Bool} (h : TX X Γ elt b Γ1) (e : b = b') : TX X Γ elt b' Γ1 := e ▸ h
end
end PL

set_option Elab.async false
set_option linter.all false
set_option maxRecDepth 100000
set_option maxHeartbeats 4000000
namespace PL
open PySem PySem.Spec PyProof.Rows L2
/-! ### texts, tuples and lists of texts, stripes, as data -/
abbrev dT (xs : List Str) : D := .tup (xs.map .str)
abbrev dL (xs : List Str) : D := .lst (xs.map .str)
abbrev dP (p : Str × Int) : D := .tup [.str p.1, .int p.2]
abbrev dS (ps : List (Str × Int)) : D := .tup (ps.map dP)
theorem itd_map {α : Type} (g : α → D) (xs : List α) (i : Nat) (h : i < xs.length) : itd (xs.map g) i = g xs[i] := by
  unfold itd
  rw [List.getD_eq_getElem?_getD, List.getElem?_map, List.getElem?_eq_getElem h]
  rfl
/-! ### comparing -/
theorem strs_flat : ∀ xs : List Str, D.flats (xs.map .str) = true
  | [] => rfl
  | x :: xs => strs_flat xs
theorem pairs_flat : ∀ ps : List (Str × Int), D.flats (ps.map dP) = true
  | [] => rfl
  | p :: ps => pairs_flat ps
theorem ints_flat : ∀ xs : List Int, D.flats (xs.map .int) = true
  | [] => rfl
  | x :: xs => ints_flat xs
theorem strs_py : ∀ xs : List Str, D.pys (xs.map .str) = xs.map .str
  | [] => rfl
  | x :: xs => by show D.py (.str x) :: D.pys (xs.map .str) = _; rw [strs_py xs]; rfl
theorem pairs_py : ∀ ps : List (Str × Int), D.pys (ps.map dP) = ps.map fun p => .tuple [.str p.1, .int p.2]
  | [] => rfl
  | x :: xs => by show D.py (dP x) :: D.pys (xs.map dP) = _; rw [pairs_py xs]; rfl
theorem ints_py : ∀ xs : List Int, D.pys (xs.map .int) = xs.map .int
  | [] => rfl
  | x :: xs => by show D.py (.int x) :: D.pys (xs.map .int) = _; rw [ints_py xs]; rfl
def okS (x : Str) : Prop := PyData.strOk x = true
theorem lay_strs : ∀ xs : List Str, (∀ x ∈ xs, okS x) → PyData.canLayAll0 (xs.map .str) = true ∧ PyData.depthAll (xs.map .str) = 0
  | [], _ => ⟨rfl, rfl⟩
  | x :: xs, h => by
    obtain ⟨h1, h2⟩ := lay_strs xs fun y hy => h y (List.mem_cons_of_mem _ hy)
    refine ⟨?_, ?_⟩
    · show (PyData.strOk x && PyData.canLayAll0 (xs.map .str)) = true
      rw [h1, show PyData.strOk x = true from h x (List.mem_cons_self ..)]; rfl
    · show max 0 (PyData.depthAll (xs.map .str)) = 0
      rw [h2]; rfl
theorem lay_ints : ∀ xs : List Int, PyData.canLayAll0 (xs.map .int) = true ∧ PyData.depthAll (xs.map .int) = 0
  | [] => ⟨rfl, rfl⟩
  | x :: xs => by
    obtain ⟨h1, h2⟩ := lay_ints xs
    refine ⟨h1, ?_⟩
    show max 0 (PyData.depthAll (xs.map .int)) = 0
    rw [h2]; rfl
theorem lay_pairs : ∀ ps : List (Str × Int), (∀ p ∈ ps, okS p.1) → PyData.canLayAll0 (ps.map fun p => .tuple [.str p.1, .int p.2]) = true ∧ PyData.depthAll (ps.map fun p => .tuple [.str p.1, .int p.2]) ≤ 1
  | [], _ => ⟨rfl, Nat.zero_le _⟩
  | x :: xs, h => by
    obtain ⟨h1, h2⟩ := lay_pairs xs fun y hy => h y (List.mem_cons_of_mem _ hy)
    refine ⟨?_, ?_⟩
    · show ((PyData.strOk x.1 && (true && true)) && PyData.canLayAll0 (xs.map fun p => .tuple [.str p.1, .int p.2])) = true
      rw [h1, show PyData.strOk x.1 = true from h x (List.mem_cons_self ..)]; rfl
    · show max 1 (PyData.depthAll (xs.map fun p => .tuple [.str p.1, .int p.2])) ≤ 1
      omega
theorem shaped_of {d : PyData} (h1 : d.canLay0 = true) (h2 : d.depth ≤ 64) : SeqAt.shaped d = true := by
  unfold SeqAt.shaped
  rw [h1, decide_eq_true h2]; rfl
theorem cmp_dT {xs : List Str} (h : ∀ x ∈ xs, okS x) : Cmp (dT xs) := by
  refine ⟨strs_flat xs, ?_⟩
  show SeqAt.shaped (.tuple (D.pys (xs.map .str))) = true
  rw [strs_py]
  obtain ⟨h1, h2⟩ := lay_strs xs h
  exact shaped_of h1 (by show PyData.depthAll _ + 1 ≤ 64; rw [h2]; decide)
theorem cmp_dL {xs : List Str} (h : ∀ x ∈ xs, okS x) : Cmp (dL xs) := by
  refine ⟨strs_flat xs, ?_⟩
  show SeqAt.shaped (.list (D.pys (xs.map .str))) = true
  rw [strs_py]
  obtain ⟨h1, h2⟩ := lay_strs xs h
  exact shaped_of h1 (by show PyData.depthAll _ + 1 ≤ 64; rw [h2]; decide)
theorem cmp_dS {ps : List (Str × Int)} (h : ∀ p ∈ ps, okS p.1) : Cmp (dS ps) := by
  refine ⟨pairs_flat ps, ?_⟩
  show SeqAt.shaped (.tuple (D.pys (ps.map dP))) = true
  rw [pairs_py]
  obtain ⟨h1, h2⟩ := lay_pairs ps h
  exact shaped_of h1 (by show PyData.depthAll _ + 1 ≤ 64; omega)
theorem cmp_dSl {ps : List (Str × Int)} (h : ∀ p ∈ ps, okS p.1) : Cmp (.lst (ps.map dP)) := by
  refine ⟨pairs_flat ps, ?_⟩
  show SeqAt.shaped (.list (D.pys (ps.map dP))) = true
  rw [pairs_py]
  obtain ⟨h1, h2⟩ := lay_pairs ps h
  exact shaped_of h1 (by show PyData.depthAll _ + 1 ≤ 64; omega)
theorem cmp_t0 : Cmp (.tup []) := ⟨rfl, rfl⟩
theorem cmp_l0 : Cmp (.lst []) := ⟨rfl, rfl⟩
theorem eqvAll_strs : ∀ xs ys : List Str, PyData.eqvAll (xs.map .str) (ys.map .str) = decide (xs = ys)
  | [], [] => rfl
  | [], y :: ys => rfl
  | x :: xs, [] => rfl
  | x :: xs, y :: ys => by
    show ((x == y) && PyData.eqvAll (xs.map .str) (ys.map .str)) = _
    rw [eqvAll_strs xs ys]
    by_cases h : x = y
    · subst h
      rw [beq_self_eq_true, Bool.true_and]
      by_cases h2 : xs = ys
      · subst h2; simp
      · rw [decide_eq_false h2, decide_eq_false (fun e => h2 (List.cons.inj e).2)]
    · rw [beq_eq_false_iff_ne.mpr h, Bool.false_and, decide_eq_false (fun e => h (List.cons.inj e).1)]
theorem eqv_dT (xs ys : List Str) : PyData.eqv (dT xs).py (dT ys).py = decide (xs = ys) := by
  show PyData.eqvAll (D.pys (xs.map .str)) (D.pys (ys.map .str)) = _
  rw [strs_py, strs_py, eqvAll_strs]
theorem eqv_dL (xs ys : List Str) : PyData.eqv (dL xs).py (dL ys).py = decide (xs = ys) := by
  show PyData.eqvAll (D.pys (xs.map .str)) (D.pys (ys.map .str)) = _
  rw [strs_py, strs_py, eqvAll_strs]
section
variable {X : Cx}
theorem o_eqT {xs ys : List Str} (hu : X.A.units + 64 < cLine) (h1 : ∀ x ∈ xs, okS x) (h2 : ∀ x ∈ ys, okS x) : OpS X (compareOp .Eq) (dT xs) (dT ys) (.sh (.bl (decide (xs = ys)))) := by
  have h := o_eqD hu (cmp_dT h1) (cmp_dT h2)
  rw [eqv_dT] at h
  exact h
theorem o_neT {xs ys : List Str} (hu : X.A.units + 64 < cLine) (h1 : ∀ x ∈ xs, okS x) (h2 : ∀ x ∈ ys, okS x) : OpS X (compareOp .NotEq) (dT xs) (dT ys) (.sh (.bl (!decide (xs = ys)))) := by
  have h := o_neD hu (cmp_dT h1) (cmp_dT h2)
  rw [eqv_dT] at h
  exact h
theorem o_eqL {xs ys : List Str} (hu : X.A.units + 64 < cLine) (h1 : ∀ x ∈ xs, okS x) (h2 : ∀ x ∈ ys, okS x) : OpS X (compareOp .Eq) (dL xs) (dL ys) (.sh (.bl (decide (xs = ys)))) := by
  have h := o_eqD hu (cmp_dL h1) (cmp_dL h2)
  rw [eqv_dL] at h
  exact h
theorem o_neL {xs ys : List Str} (hu : X.A.units + 64 < cLine) (h1 : ∀ x ∈ xs, okS x) (h2 : ∀ x ∈ ys, okS x) : OpS X (compareOp .NotEq) (dL xs) (dL ys) (.sh (.bl (!decide (xs = ys)))) := by
  have h := o_neD hu (cmp_dL h1) (cmp_dL h2)
  rw [eqv_dL] at h
  exact h
/-- t == (): of a tuple of data that are compared -/
theorem o_eqT0 {ds : List D} (hu : X.A.units + 64 < cLine) (h1 : Cmp (.tup ds)) : OpS X (compareOp .Eq) (.tup ds) (.tup []) (.sh (.bl ds.isEmpty)) := by
  have h := o_eqD hu h1 cmp_t0
  rw [show PyData.eqv (D.tup ds).py (D.tup []).py = ds.isEmpty by cases ds <;> rfl] at h
  exact h
theorem o_neL0 {ds : List D} (hu : X.A.units + 64 < cLine) (h1 : Cmp (.lst ds)) : OpS X (compareOp .NotEq) (.lst ds) (.lst []) (.sh (.bl (!ds.isEmpty))) := by
  have h := o_neD hu h1 cmp_l0
  rw [show PyData.eqv (D.lst ds).py (D.lst []).py = ds.isEmpty by cases ds <;> rfl] at h
  exact h
/-! ### x in a list of texts -/
theorem flat_strs (xs : List Str) : (xs.map V.str).all flatV = true := by
  rw [List.all_eq_true]
  intro v hv
  obtain ⟨x, _, rfl⟩ := List.mem_map.mp hv
  rfl
theorem inV_strs (x : Str) : ∀ xs : List Str, inV (.str x) (xs.map V.str) = decide (x ∈ xs)
  | [] => rfl
  | y :: ys => by
    show ((y == x) || inV (.str x) (ys.map V.str)) = _
    rw [inV_strs x ys]
    by_cases h : y = x
    · subst h; simp
    · have h2 : x ≠ y := fun e => h e.symm
      rw [beq_eq_false_iff_ne.mpr h, Bool.false_or]
      simp [h2]
theorem o_inL {x : Str} {xs : List Str} : OpS X (compareOp .In) (.str x) (dL xs) (.sh (.bl (decide (x ∈ xs)))) := ops_sc op_in_seq (.bl _) (fun _ => rfl) fun H S v y Q s r1 r2 q => by
  obtain ⟨p, vs, rfl, h1, h2⟩ := r2
  rw [h2.strs] at h1
  obtain rfl : v = .str x := r1
  refine ⟨p, _, rfl, .inl (.of (s _ _ h1)), rfl, flat_strs xs, ?_⟩
  rw [if_neg (by decide), inV_strs]
  exact q
theorem o_ninL {x : Str} {xs : List Str} : OpS X (compareOp .NotIn) (.str x) (dL xs) (.sh (.bl (!decide (x ∈ xs)))) := ops_sc op_notIn_seq (.bl _) (fun _ => rfl) fun H S v y Q s r1 r2 q => by
  obtain ⟨p, vs, rfl, h1, h2⟩ := r2
  rw [h2.strs] at h1
  obtain rfl : v = .str x := r1
  refine ⟨p, _, rfl, .inl (.of (s _ _ h1)), rfl, flat_strs xs, ?_⟩
  rw [if_pos rfl, inV_strs]
  exact q
/-! ### typed items and slices -/
theorem atI_map {α β : Type} (g : α → β) (xs : List α) (i : Int) : atI (xs.map g) i = (atI xs i).map g := by
  unfold atI
  rw [List.length_map]
  cases ixN xs.length i with
  | none => rfl
  | some j => show (xs.map g)[j]? = _; rw [List.getElem?_map]; rfl
theorem i_dT {xs : List Str} {i : Int} {x : Str} (h : atI xs i = some x) : IxS X (dT xs) (.int i) (.sh (.str x)) := i_tup (by rw [atI_map, h]; rfl)
theorem i_dL {xs : List Str} {i : Int} {x : Str} (h : atI xs i = some x) : IxS X (dL xs) (.int i) (.sh (.str x)) := i_list (by rw [atI_map, h]; rfl)
theorem cut_map {α β : Type} (g : α → β) (xs : List α) (lo hi : Option Int) : cutL (xs.map g) lo hi = (cutL xs lo hi).map g := by
  unfold cutL
  rw [List.length_map, List.map_take, List.map_drop]
theorem l_dT {xs : List Str} {lo hi : Option Int} : SlS X (dT xs) lo hi (.sh (dT (cutL xs lo hi))) := by
  have h := l_tup (X := X) (ds := xs.map .str) (lo := lo) (hi := hi)
  rw [cut_map] at h
  exact h
theorem l_dL {xs : List Str} {lo hi : Option Int} : SlS X (dL xs) lo hi (.ow (.lst ((cutL xs lo hi).map .str))) := by
  have h := l_list (X := X) (ds := xs.map .str) (lo := lo) (hi := hi)
  rw [cut_map] at h
  exact h
theorem o_dTcat {xs ys : List Str} (hl : xs.length + ys.length ≤ sizeLine) : OpS X (binaryOp .Add) (dT xs) (dT ys) (.sh (dT (xs ++ ys))) := by
  have h := o_catT (X := X) (ds := xs.map .str) (es := ys.map .str) (by simpa using hl)
  rw [← List.map_append] at h
  exact h
theorem o_dLcat {xs ys : List Str} (hl : xs.length + ys.length ≤ sizeLine) : OpS X (binaryOp .Add) (dL xs) (dL ys) (.ow (.lst ((xs ++ ys).map .str))) := by
  have h := o_catL (X := X) (ds := xs.map .str) (es := ys.map .str) (by simpa using hl)
  rw [← List.map_append] at h
  exact h
theorem pickB_map {α β : Type} (g : α → β) (xs : List α) (lo hi : Option Int) : pickB (xs.map g) lo hi = (pickB xs lo hi).map g := by
  unfold pickB
  rw [List.length_map, List.map_filterMap]
  congr 1
  funext k
  rw [List.getElem?_map]
variable {Γ Γ1 Γ2 Γ3 : Gm} {a : Ex} {lo hi : Option Ex} {i j : Option Int} {k : Nat} {p1 p2 p3 pos : Pos}
theorem e_backD {xs : List Str} (h : EX X Γ a (.sh (dT xs)) Γ1) (hl : PX X Γ1 lo i Γ2) (hh : PX X Γ2 hi j Γ3) : EX X Γ (.Subscript a (.Slice lo hi (some (.UnaryOp .USub (.Constant (.int 1) k p1) p2)) p3) pos) (.sh (dT (pickB xs i j))) Γ3 := by
  have z := e_backT (k := k) (p1 := p1) (p2 := p2) (p3 := p3) (pos := pos) h hl hh
  rw [pickB_map] at z
  exact z
theorem e_revD {xs : List Str} (h : EX X Γ a (.sh (dL xs)) Γ1) : EX X Γ (.Subscript a (.Slice none none (some (.UnaryOp .USub (.Constant (.int 1) k p1) p2)) p3) pos) (.ow (.lst (xs.reverse.map .str))) Γ1 := by
  have z := e_revL (k := k) (p1 := p1) (p2 := p2) (p3 := p3) (pos := pos) h
  rw [← List.map_reverse] at z
  exact z
end
/-! ### slices of the usual forms -/
theorem cut_from {α : Type} (xs : List α) (k : Nat) : cutL xs (some (k : Int)) none = xs.drop k := by
  unfold cutL
  rw [HT.sIx_nat, HT.sIx_none]
  by_cases h : k ≤ xs.length
  · rw [Nat.min_eq_left h, List.take_of_length_le (by rw [List.length_drop]; omega)]
  · rw [Nat.min_eq_right (by omega), List.drop_of_length_le (Nat.le_refl _), List.drop_of_length_le (by omega), List.take_nil]
theorem cut_to {α : Type} (xs : List α) (k : Nat) : cutL xs none (some (k : Int)) = xs.take k := by
  unfold cutL
  rw [HT.sIx_nat, HT.sIx_none, List.drop_zero, Nat.sub_zero]
  by_cases h : k ≤ xs.length
  · rw [Nat.min_eq_left h]
  · rw [Nat.min_eq_right (by omega), List.take_of_length_le (Nat.le_refl _), List.take_of_length_le (by omega)]
theorem sIx_m1 (n d : Nat) : HT.sIx n d (some (-1)) = n - 1 := by
  show (if (-1 : Int) < 0 then (-1 + (n : Int)).toNat else min (-1 : Int).toNat n) = n - 1
  rw [if_pos (by decide)]; omega
theorem cut_init {α : Type} (xs : List α) : cutL xs none (some (-1)) = xs.dropLast := by
  unfold cutL
  rw [sIx_m1, HT.sIx_none, List.drop_zero, Nat.sub_zero, List.dropLast_eq_take]
theorem cut_mid {α : Type} (xs : List α) : cutL xs (some 1) (some (-1)) = (xs.drop 1).dropLast := by
  unfold cutL
  rw [sIx_m1, show HT.sIx xs.length 0 (some 1) = min 1 xs.length from HT.sIx_nat xs.length 0 1, List.dropLast_eq_take, List.length_drop]
  cases xs with
  | nil => rfl
  | cons x r => rw [show min 1 (x :: r).length = 1 by rw [List.length_cons]; omega]
theorem cut_1 {α : Type} (xs : List α) : cutL xs (some 1) none = xs.drop 1 := cut_from xs 1
end PL

set_option Elab.async false
set_option linter.all false
set_option maxRecDepth 100000
set_option maxHeartbeats 4000000
/-! plain functions that say what the program's defs compute -/
namespace PL
open PySem PySem.Spec PyProof.Rows L2
def letters : Str := "abcdefghijklmnopqrstuvwxyz"
def wholeB : D → Bool
  | .int _ => true
  | _ => false
def wordB (x : Str) (most : Int) : Bool := decide ((1 : Int) ≤ x.length) && decide ((x.length : Int) ≤ most) && (List.range x.cps.size).all fun i => decide (x.cps.getD i 0 ∈ letters.cps.toList)
def wordD (most : Int) : D → Bool
  | .str x => wordB x most
  | _ => false
/-- plain data whose texts are of a size that the machine knows -/
def Pl : D → Prop
  | .str x => x.length ≤ sizeLine
  | d => d.plain = true
theorem Pl.plain {d : D} (h : Pl d) : d.plain = true := by cases d <;> first | rfl | exact h
abbrev shadeD (d : D) : Bool := wordD 3 d
abbrev shadeB (x : Str) : Bool := wordB x 3
/-- a good stripe -/
def okStripe (p : Str × Int) : Prop := shadeB p.1 = true ∧ 0 < p.2
theorem shade_len {x : Str} (h : shadeB x = true) : 1 ≤ x.length ∧ x.length ≤ 3 := by
  have h1 : (decide ((1 : Int) ≤ x.length) && decide ((x.length : Int) ≤ 3)) = true := (Bool.and_eq_true_iff.mp h).1
  have h2 := of_decide_eq_true (Bool.and_eq_true_iff.mp h1).1
  have h3 := of_decide_eq_true (Bool.and_eq_true_iff.mp h1).2
  omega
theorem shade_pl {x : Str} (h : shadeB x = true) : Pl (.str x) := by
  have := (shade_len h).2
  show x.length ≤ sizeLine
  have : (3 : Nat) ≤ sizeLine := by decide
  omega
theorem letters_small : ∀ c ∈ letters.cps.toList, c < 1114112 := by decide +kernel
theorem shade_ok {x : Str} (h : shadeB x = true) : okS x := by
  have h1 := (Bool.and_eq_true_iff.mp h).2
  rw [List.all_eq_true] at h1
  show x.cps.all (· < 0x110000) = true
  rw [Array.all_eq_true]
  intro i hi
  have h2 := of_decide_eq_true (h1 i (List.mem_range.mpr hi))
  have h3 := letters_small _ h2
  rw [Array.getD_eq_getD_getElem?, Array.getElem?_eq_getElem hi] at h3
  exact decide_eq_true h3
def Shs (ts : List Str) : Prop := ∀ t ∈ ts, shadeB t = true
theorem Shs.ok {ts : List Str} (h : Shs ts) : ∀ t ∈ ts, okS t := fun t ht => shade_ok (h t ht)
def tot (ps : List (Str × Int)) : Int := (ps.map (·.2)).sum
structure OkSt (ps : List (Str × Int)) : Prop where
  ne : ps ≠ []
  ok : ∀ p ∈ ps, okStripe p
  le : tot ps ≤ 240
def thr (ps : List (Str × Int)) : List Str := ps.flatMap fun p => List.replicate p.2.toNat p.1
theorem tot_nonneg : ∀ {ps : List (Str × Int)}, (∀ p ∈ ps, 0 < p.2) → 0 ≤ tot ps
  | [], _ => Int.le_refl _
  | p :: ps, h => by
    have h1 := h p (List.mem_cons_self ..)
    have h2 := tot_nonneg fun q hq => h q (List.mem_cons_of_mem _ hq)
    show 0 ≤ ((p :: ps).map (·.2)).sum
    rw [List.map_cons, List.sum_cons]
    unfold tot at h2
    omega
theorem tot_take {ps : List (Str × Int)} (h : ∀ p ∈ ps, 0 < p.2) (j : Nat) : tot (ps.take j) ≤ tot ps := by
  have h2 := tot_nonneg (ps := ps.drop j) fun q hq => h q (List.mem_of_mem_drop hq)
  have e : tot ps = tot (ps.take j) + tot (ps.drop j) := by
    unfold tot
    rw [← List.sum_append, ← List.map_append, List.take_append_drop]
  omega
theorem tot_succ {ps : List (Str × Int)} {j : Nat} (h : j < ps.length) : tot (ps.take (j + 1)) = tot (ps.take j) + ps[j].2 := by
  unfold tot
  rw [List.take_succ_eq_append_getElem h, List.map_append, List.sum_append]
  simp
theorem thr_len : ∀ {ps : List (Str × Int)}, (∀ p ∈ ps, 0 < p.2) → ((thr ps).length : Int) = tot ps
  | [], _ => rfl
  | p :: ps, h => by
    have h1 := h p (List.mem_cons_self ..)
    have h2 := thr_len fun q hq => h q (List.mem_cons_of_mem _ hq)
    show (((p :: ps).flatMap fun p => List.replicate p.2.toNat p.1).length : Int) = ((p :: ps).map (·.2)).sum
    rw [List.flatMap_cons, List.length_append, List.length_replicate, List.map_cons, List.sum_cons]
    unfold thr tot at h2
    omega
theorem thr_succ {ps : List (Str × Int)} {j : Nat} (h : j < ps.length) : thr (ps.take (j + 1)) = thr (ps.take j) ++ List.replicate (ps[j].2).toNat ps[j].1 := by
  unfold thr
  rw [List.take_succ_eq_append_getElem h, List.flatMap_append]
  simp
theorem thr_shs {ps : List (Str × Int)} (h : ∀ p ∈ ps, okStripe p) : Shs (thr ps) := fun t ht => by
  obtain ⟨p, hp, hm⟩ := List.mem_flatMap.mp ht
  rw [List.mem_replicate] at hm
  rw [hm.2]; exact (h p hp).1
/-! ### merging -/
def mrgStep (acc : List (Str × Int)) (s : Str) : List (Str × Int) := match acc.getLast? with
  | some (t, n) => if t = s then acc.dropLast ++ [(s, n + 1)] else acc ++ [(s, 1)]
  | none => [(s, 1)]
def mrg (ts : List Str) : List (Str × Int) := ts.foldl mrgStep []
theorem mrg_snoc (ts : List Str) (s : Str) : mrg (ts ++ [s]) = mrgStep (mrg ts) s := by unfold mrg; rw [List.foldl_append]; rfl
/-! ### the least round -/
def perAt (ts : List Str) (k : Nat) : Bool := decide (ts.length % k = 0) && decide (ts.drop k = ts.take (ts.length - k))
def lr (ts : List Str) : Nat := (((List.range (ts.length - 1)).find? fun i => perAt ts (i + 1)).map (· + 1)).getD ts.length
theorem find_first {t : Nat → Bool} {n m : Nat} (hm : m < n) (h : t m = true) (hf : ∀ j, j < m → t j = false) : (List.range n).find? t = some m := by
  rw [List.find?_range_eq_some]
  exact ⟨h, List.mem_range.mpr hm, fun j hj => by rw [hf j hj]; rfl⟩
theorem find_none' {t : Nat → Bool} {n : Nat} (hf : ∀ j, j < n → t j = false) : (List.range n).find? t = none := by
  rw [List.find?_eq_none]
  intro x hx
  rw [hf x (List.mem_range.mp hx)]; decide
def pivotW (ts : List Str) : List Str := ts ++ ((ts.drop 1).dropLast).reverse
def foldW (ts : List Str) : List Str := ts ++ ts.reverse
def leftW (ts : List Str) : List Str := ts ++ (ts.drop 1).reverse
def rightW (ts : List Str) : List Str := ts ++ ts.dropLast.reverse
inductive Mnr where | run | pivot | fold | left | right
def Mnr.s : Mnr → Str
  | .run => "run" | .pivot => "pivot" | .fold => "fold" | .left => "left" | .right => "right"
def Mnr.f : Mnr → Str
  | .run => "run_word" | .pivot => "pivot_word" | .fold => "fold_word" | .left => "left_word" | .right => "right_word"
def layW : Mnr → List Str → List Str
  | .run => id | .pivot => pivotW | .fold => foldW | .left => leftW | .right => rightW
theorem layW_len (m : Mnr) (ts : List Str) : (layW m ts).length ≤ 2 * ts.length := by
  cases m <;> simp [layW, pivotW, foldW, leftW, rightW] <;> omega
theorem layW_shs (m : Mnr) {ts : List Str} (h : Shs ts) : Shs (layW m ts) := by
  intro t ht
  have key : t ∈ ts := by
    cases m with
    | run => exact ht
    | pivot =>
      rcases List.mem_append.mp ht with z | z
      · exact z
      · exact List.mem_of_mem_drop (List.dropLast_subset _ (List.mem_reverse.mp z))
    | fold =>
      rcases List.mem_append.mp ht with z | z
      · exact z
      · exact List.mem_reverse.mp z
    | left =>
      rcases List.mem_append.mp ht with z | z
      · exact z
      · exact List.mem_of_mem_drop (List.mem_reverse.mp z)
    | right =>
      rcases List.mem_append.mp ht with z | z
      · exact z
      · exact List.dropLast_subset _ (List.mem_reverse.mp z)
  exact h t key
theorem layW_pos (m : Mnr) {ts : List Str} (h : 0 < ts.length) : 0 < (layW m ts).length := by
  cases m <;> simp [layW, pivotW, foldW, leftW, rightW] <;> omega
/-- a round's threads -/
def spin (wd : List Str) (n : Nat) (st : Int) : List Str := (List.range n).map fun (i : Nat) => wd.getD (((i : Int) + st) % (n : Int)).toNat default
def rowK (ps : List (Str × Int)) (m : Mnr) (st : Int) : List Str := spin (layW m (thr ps)) (lr (layW m (thr ps))) st
theorem lr_pos {ts : List Str} (h : 0 < ts.length) : 0 < lr ts := by
  unfold lr
  cases e : (List.range (ts.length - 1)).find? fun i => perAt ts (i + 1) with
  | none => exact h
  | some m => exact Nat.succ_pos _
theorem lr_le (ts : List Str) : lr ts ≤ ts.length := by
  unfold lr
  cases e : (List.range (ts.length - 1)).find? fun i => perAt ts (i + 1) with
  | none => exact Nat.le_refl _
  | some m =>
    have := List.mem_range.mp (List.mem_of_find?_eq_some e)
    show m + 1 ≤ ts.length
    omega
end PL

set_option Elab.async false
set_option linter.all false
set_option maxRecDepth 100000
set_option maxHeartbeats 1000000
/-! methods, constructors with defaults, calls by keywords -/
namespace PL
open PySem PySem.Spec PyProof.Rows L2
/-- a class's method as it stands -/
structure Dm (K : PySem.W.Frag) (C : Addr) (m qual : Str) (st : Stmt) (dvs : List V) : Prop where
  ex : ∃ f fd, FunD K m qual (defArgs st) (defBody st) (defScope st) dvs [] f fd ∧ Meth K C m f
structure M0 (Pg : Program) (w : World) (K : PySem.W.Frag) (mg : Str → Option Value) (base : Heap) (C : Addr) (m : Str) (j : Nat) (ps : List Str) (P : List D → Rs → Prop) : Prop where
  ex : ∃ f fd, Meth K C m f ∧ Binds K fd ps [] ∧ FnOk Pg w K mg base (L2.CX Pg w) j f fd ps (sp0 K P)
def BindsM (m qual : Str) (st : Stmt) (ps : List Str) : Prop := ∀ (kV doc pm : Value) (an : Option Addr) (cdv ct : Value) (us : List Value), us.length = ps.length → bindArgs (PySem.W.fnOf m qual (defArgs st) (defBody st) (defScope st) .none kV doc pm an cdv ct) ⟨us, []⟩ = pure (ps.zip us)
section
variable {Pg : Program} {w : World} {K : PySem.W.Frag} {mg : Str → Option Value} {base : Heap} {C : Addr} {m qual : Str} {st : Stmt} {N ps : List Str} {k : Nat}
theorem m0_mk {P : List D → Rs → Prop} (Dd : Dm K C m qual st []) (Sc : FnScope N ps (defScope st)) (bd : BindsM m qual st ps) (hn : ps.length ≤ N.length) (hl : ∀ ds r, P ds r → ds.length = ps.length ∧ ∀ j, r ≠ .br j)
    (hb : ∀ f cd A outer s H E, Gd k (cx Pg w K mg base N qual (defScope st) f cd A outer s H E) → ∀ ds r, P ds r → ∃ Γ', Ends1 (cx Pg w K mg base N qual (defScope st) f cd A outer s H E) (ent N ds) (defBody st) r Γ') : M0 Pg w K mg base C m (k + 1) ps P := by
  obtain ⟨f, fd, FD, gm⟩ := Dd.ex
  exact ⟨f, fd, gm, FD.bindsN bd, fn0 FD Sc (fun ds r p => (hl ds r p).1) hn (fun ds r p => (hl ds r p).2) (hb f)⟩
/-- a class's __init__ as it stands; its last n parameters have defaults -/
structure Di (K : PySem.W.Frag) (C : Addr) (qual : Str) (st : Stmt) (dvs : List V) : Prop where
  ex : ∃ f fd, FunD K "__init__" qual (defArgs st) (defBody st) (defScope st) dvs [] f fd ∧ Mk K C f
/-- a class that is called: values for all parameters, or so few that dds fill up -/
structure K1 (Pg : Program) (w : World) (K : PySem.W.Frag) (mg : Str → Option Value) (base : Heap) (x : Str) (C : Addr) (j : Nat) (ps : List Str) (dvss : List (List V)) (P : Ob → List D → Rs → Ob → Prop) : Prop where
  ex : ∃ f fd, mg x = some (.ref C) ∧ Mk K C f ∧ FnOk Pg w K mg base (L2.CX Pg w) j f fd ps (sp1 K P) ∧ ∀ dvs ∈ dvss, ∃ dv, Vals dvs dv ∧ Binds K fd ps dv
end
section
variable {X : Cx} {Γ Γ1 Γ2 : Gm} {e o : Ex} {es : List Ex} {p pos apos : Pos} {r : Rs} {ds dds : List D} {j k : Nat} {ps : List Str} {x m : Str} {C : Addr} {ns : List Str} {fs : List D} {pl : Sem Bool}
theorem e_m00 {P : List D → Rs → Prop} (G : M0 X.prog X.w X.K X.mg X.base C m j ps P) (c : Cls X.K C) (g : Gd k X) (ho : EX X Γ o (.sh (.obj C ns fs)) Γ1) (hp : P [.obj C ns fs] r) (hno : (ns.zip fs).lookup m = none := by rfl) (hk : j ≤ k := by decide)
    (ht : eval (.Call (.Attribute o m apos) [] [] pos) X.env = (do
      let ov ← eval o X.env
      standAt apos.atName
      let (f, first) ← holding [ov] (getMethod ov m pl)
      callWith pos f first (backTo pos (starEach [] X.env)) (backToKw pos (keywordEach [] X.env))) := by rfl) : EX X Γ (.Call (.Attribute o m apos) [] [] pos) r Γ1 := by
  obtain ⟨f, fd, hm, b, F⟩ := G.ex
  exact e_meth0 (dds := []) F c hm g ho hno hp b .nil (fun _ => rfl) hk ht
theorem e_m0 {P : List D → Rs → Prop} (G : M0 X.prog X.w X.K X.mg X.base C m j ps P) (c : Cls X.K C) (g : Gd k X) (ho : EX X Γ o (.sh (.obj C ns fs)) Γ1) (ha : AX X Γ1 (e :: es) ds Γ2) (hp : P (.obj C ns fs :: ds) r) (hno : (ns.zip fs).lookup m = none := by rfl) (hk : j ≤ k := by decide)
    (hst : starEach (e :: es) X.env = (false, eval e X.env) :: starEach es X.env := by rfl) (hpl : (backTo pos (starEach es X.env)).any (·.1) = false := by rfl)
    (ht : eval (.Call (.Attribute o m apos) (e :: es) [] pos) X.env = (do
      let ov ← eval o X.env
      standAt apos.atName
      let (f, first) ← holding [ov] (getMethod ov m pl)
      callWith pos f first (backTo pos (starEach (e :: es) X.env)) (backToKw pos (keywordEach [] X.env))) := by rfl) : EX X Γ (.Call (.Attribute o m apos) (e :: es) [] pos) r Γ2 := by
  obtain ⟨f, fd, hm, b, F⟩ := G.ex
  exact e_meth (dds := []) F c hm g ho hno ha (by rw [List.append_nil]; exact hp) b .nil (fun _ => rfl) hk hst hpl ht
theorem e_k1 {P : Ob → List D → Rs → Ob → Prop} {o' : Ob} {dvss : List (List V)} (dvs : List V) (G : K1 X.prog X.w X.K X.mg X.base x C j ps dvss P) (g : Gd k X) (ha : AX X Γ (e :: es) ds Γ1) (hp : P (.ins C [] []) (ds ++ dds) (.sh .non) o') (hdd : ∀ S, Reps X.K S dds dvs) (hmem : dvs ∈ dvss := by decide)
    (hk : j + 1 ≤ k := by decide) (hg : Gl X x := by rfl) (hdb : (x == ("__debug__" : Str)) = false := by decide) (he : starEach (e :: es) X.env = (false, eval e X.env) :: starEach es X.env := by rfl) (hpl : (backTo pos (starEach es X.env)).any (·.1) = false := by rfl) : EX X Γ (.Call (.Name x p) (e :: es) [] pos) (.ow o') Γ1 := by
  obtain ⟨f, fd, hm, M, F, hb⟩ := G.ex
  obtain ⟨dv, v, b⟩ := hb dvs hmem
  exact e_make M F hm g ha hp b v hdd hk hg hdb he hpl
/-! ### f(e), e a new object that f may change -/
theorem e_c1n {P : Ob → List D → Rs → Ob → Prop} {ob o' : Ob} (G : C1 X.prog X.w X.K X.mg X.base x j ps P) (g : Gd k X) (h : EX X Γ e (.ow ob) Γ1) (hp : P ob [] r o') (hk : j ≤ k := by decide) (hg : Gl X x := by rfl)
    (hdb : (x == ("__debug__" : Str)) = false := by decide) (he : starEach [e] X.env = (false, eval e X.env) :: starEach [] X.env := by rfl) (hpl : (backTo pos (starEach [] X.env)).any (·.1) = false := by rfl) : EX X Γ (.Call (.Name x p) [e] [] pos) r Γ1 := fun F σ H S Q R q => by
  obtain ⟨f, fd, gm, kp, b, Fo⟩ := G.ex
  refine pe_we (pe_call Fo (g.rm.mono hk) hg gm kp b .nil passL (pa_cons we_pe pa_nil he) hdb he hpl) (h F σ H S _ R fun v H1 S1 R1 s1 ok => ?_)
  obtain ⟨a, rfl, n1, n2, obr, no⟩ := ok
  refine ⟨S1, ob, [], r, o', a, [], hp, rfl, R1.sh, n1, obr, rfl, fun v H2 S2 t n3 ob3 => ?_⟩
  obtain ⟨R2, ok2⟩ := R1.after t (fun b z => .inr (by rw [z]; exact n2)) rfl fun i s es => .inl ⟨es, fun b ow z => no ⟨i, by rw [← z]; exact ow⟩⟩
  exact q v H2 S2 R2 (s1.trans t.ss) ok2
/-! ### f(k = v) -/
theorem pe_callK0 {CX : CXT} {f : Addr} {fd : FuncData} {ks : List Str} {sp : Sp} {E : XK} {kws : List Keyword} {tk : TA} {gg : List Value → List Value → List Value} {gV : List V → List V → List V} (F : FnOk X.prog X.w X.K X.mg X.base CX j f fd ps sp) (hr : Room j X.A) (hg : Gl X x) (hm : X.mg x = some (.ref f)) (hk : PySem.W.keepIn X.K (.ref f) = true) (hb : KBinds X.K fd ps ks gg gV) (hx : Passes CX X E)
    (hkw : PK X kws tk) (hall : (backToKw pos (keywordEach kws X.env)).all (·.1.isSome) = true := by rfl) (hks : (backToKw pos (keywordEach kws X.env)).filterMap (·.1) = ks := by rfl)
    (hdb : (x == ("__debug__" : Str)) = false := by decide)
    (hpl : ((backTo pos (starEach [] X.env)).any (·.1) || (backToKw pos (keywordEach kws X.env)).any (·.1.isNone)) = false := by rfl) :
    PE X (.Call (.Name x p) [] kws pos) (fun σ H Q => tk σ H fun zs H2 => sp (gV [] zs) H2 Q E) := by
  refine ⟨fun pins s σ H Q I h => ?_⟩
  refine wpAny_Call_Name_kw (ld_glob I hg hm ?_ hdb)
  refine PySem.W.callWith_KW0 (h₀ := X.base) I.ok.mod.kin hk hall (thn (hkw.run pos pins s σ H _ I h) fun ws s2 ⟨zs, H2, I2, rz, q2⟩ => ⟨I2.kIn, ?_⟩) hpl
  rw [hks]
  exact run_fnk F hr hb hx I2 .nil rz q2
/-- a def that is called by one keyword -/
structure C0k (Pg : Program) (w : World) (K : PySem.W.Frag) (mg : Str → Option Value) (base : Heap) (x : Str) (j : Nat) (ps : List Str) (P : List D → Rs → Prop) : Prop where
  ex : ∃ f fd, mg x = some (.ref f) ∧ PySem.W.keepIn K (.ref f) = true ∧ KBinds K fd ps ps (fun us ws => us ++ ws) (fun vs zs => vs ++ zs) ∧ FnOk Pg w K mg base (L2.CX Pg w) j f fd ps (sp0 K P)
theorem c0k_mk {Pg : Program} {w : World} {K : PySem.W.Frag} {mg : Str → Option Value} {base : Heap} {x : Str} {st : Stmt} {N ps : List Str} {k : Nat} {P : List D → Rs → Prop} (Dd : Df K mg x st []) (Sc : FnScope N ps (defScope st)) (bd : BindsN x st ps)
    (bk : ∀ (kV doc pm : Value) (an : Option Addr) (cdv ct : Value) (us ws : List Value), (us ++ ws).length = ps.length → bindArgs (PySem.W.fnOf x x (defArgs st) (defBody st) (defScope st) .none kV doc pm an cdv ct) ⟨us, ps.zip ws⟩ = pure (ps.zip (us ++ ws))) (hn : ps.length ≤ N.length) (hl : ∀ ds r, P ds r → ds.length = ps.length ∧ ∀ j, r ≠ .br j)
    (hb : ∀ f cd A outer s H E, Gd k (cx Pg w K mg base N x (defScope st) f cd A outer s H E) → ∀ ds r, P ds r → ∃ Γ', Ends1 (cx Pg w K mg base N x (defScope st) f cd A outer s H E) (ent N ds) (defBody st) r Γ') : C0 Pg w K mg base x (k + 1) ps P ∧ C0k Pg w K mg base x (k + 1) ps P := by
  obtain ⟨f, fd, FD, gm⟩ := Dd.ex
  have F := fn0 FD Sc (fun ds r p => (hl ds r p).1) hn (fun ds r p => (hl ds r p).2) (hb f)
  refine ⟨⟨f, fd, gm, FD.kp, FD.bindsN bd, F⟩, ⟨f, fd, gm, FD.kp, ⟨fun s us ws X hlen => ?_, fun r1 r2 => r1.append r2⟩, F⟩⟩
  obtain ⟨oc, od, dV, kV, doc, pm, an, cdv, ct, osl, rfl, lk, hcd, hD, hK⟩ := FD.ex
  rcases hD with ⟨_, rfl⟩ | ⟨e, _⟩
  · exact .of_eq (bk kV doc pm an cdv ct us ws hlen)
  · exact absurd rfl e
theorem e_c0k1 {P : List D → Rs → Prop} {y : Str} {kpos : Pos} {d : D} (G : C0k X.prog X.w X.K X.mg X.base x j [y] P) (g : Gd k X) (ha : EX X Γ e (.sh d) Γ1) (hp : P [d] r) (hk : j ≤ k := by decide) (hg : Gl X x := by rfl)
    (hdb : (x == ("__debug__" : Str)) = false := by decide) (hall : (backToKw pos (keywordEach [⟨some y, e, kpos⟩] X.env)).all (·.1.isSome) = true := by rfl) (hks : (backToKw pos (keywordEach [⟨some y, e, kpos⟩] X.env)).filterMap (·.1) = [y] := by rfl)
    (hpl : ((backTo pos (starEach [] X.env)).any (·.1) || (backToKw pos (keywordEach [⟨some y, e, kpos⟩] X.env)).any (·.1.isNone)) = false := by rfl) : EX X Γ (.Call (.Name x p) [] [⟨some y, e, kpos⟩] pos) r Γ1 := fun F σ H S Q R q => by
  obtain ⟨f, fd, gm, kp, b, Fo⟩ := G.ex
  refine pe_we (pe_callK0 (E := E0) Fo (g.rm.mono hk) hg gm kp b passL (pk_cons we_pe pk_nil) hall hks hdb hpl) ?_
  refine ha F σ H S _ R fun v H1 S1 R1 s1 ok => ⟨S1, [d], r, hp, R1.sh, .one ok, fun v H2 S2 t => ?_⟩
  obtain ⟨R2, ok2⟩ := R1.after0 t
  exact q v H2 S2 R2 (s1.trans t.ss) ok2
end
end PL

set_option Elab.async false
set_option linter.all false
set_option maxRecDepth 100000
set_option maxHeartbeats 1000000
namespace Hd
open PySem PySem.Spec PyProof.Rows L2
def topS (i : Nat) : Stmt := PySem.Challenge.pw_stripelay_k02_threads_and_stripes.main.body.getD i (.Pass ⟨0, 0, 0, 0⟩)
abbrev s_NoStripes___init__ : Stmt := inClass (topS 6) 0
abbrev s_TooLong___init__ : Stmt := inClass (topS 9) 0
abbrev s_NoText___init__ : Stmt := inClass (topS 10) 0
abbrev s_NoSpot___init__ : Stmt := inClass (topS 16) 0
abbrev s_NoCut___init__ : Stmt := inClass (topS 17) 0
abbrev s_NoShade___init__ : Stmt := inClass (topS 18) 0
abbrev s_NoName___init__ : Stmt := inClass (topS 19) 0
abbrev s_NoStep___init__ : Stmt := inClass (topS 20) 0
abbrev s_NoWay___init__ : Stmt := inClass (topS 21) 0
abbrev s_NoWeave___init__ : Stmt := inClass (topS 22) 0
abbrev s_is_whole : Stmt := topS 26
abbrev s_is_word : Stmt := topS 27
abbrev s_is_shade : Stmt := topS 28
abbrev s_is_stripe : Stmt := topS 29
abbrev s_check_stripes : Stmt := topS 30
abbrev s_threads_of : Stmt := topS 31
abbrev s_are_threads : Stmt := topS 32
abbrev s_merged : Stmt := topS 33
abbrev s_stripes_of : Stmt := topS 34
abbrev s__law_pool : Stmt := topS 36
abbrev s__law_take : Stmt := topS 37
abbrev s__law_some_shades : Stmt := topS 38
abbrev s__law_drawn_stripes : Stmt := topS 39
abbrev s__law_threads : Stmt := topS 40
abbrev s__law_sort : Stmt := topS 41
abbrev s__law_whole : Stmt := topS 42
abbrev s__law_are_fewest : Stmt := topS 43
abbrev s__law_refused : Stmt := topS 44
abbrev s__law_no_threads : Stmt := topS 45
abbrev s_law : Stmt := topS 46
def d_is_whole : He.DefD := ⟨("is_whole", none), "is_whole", "is_whole", defArgs s_is_whole, defBody s_is_whole, defScope s_is_whole, [], []⟩
abbrev N_is_whole : List Str := ["x"]
theorem sc_is_whole : FnScope N_is_whole ["x"] (defScope s_is_whole) := ⟨rfl, rfl, rfl, by decide +kernel, rfl, by decide +kernel, by decide +kernel⟩
def d_is_word : He.DefD := ⟨("is_word", none), "is_word", "is_word", defArgs s_is_word, defBody s_is_word, defScope s_is_word, [], []⟩
abbrev N_is_word : List Str := ["thing", "most", "sign"]
theorem sc_is_word : FnScope N_is_word ["thing", "most"] (defScope s_is_word) := ⟨rfl, rfl, rfl, by decide +kernel, rfl, by decide +kernel, by decide +kernel⟩
-- comps is_word: [[('sign', 2)]]
def d_is_shade : He.DefD := ⟨("is_shade", none), "is_shade", "is_shade", defArgs s_is_shade, defBody s_is_shade, defScope s_is_shade, [], []⟩
abbrev N_is_shade : List Str := ["thing"]
theorem sc_is_shade : FnScope N_is_shade ["thing"] (defScope s_is_shade) := ⟨rfl, rfl, rfl, by decide +kernel, rfl, by decide +kernel, by decide +kernel⟩
def d_is_stripe : He.DefD := ⟨("is_stripe", none), "is_stripe", "is_stripe", defArgs s_is_stripe, defBody s_is_stripe, defScope s_is_stripe, [], []⟩
abbrev N_is_stripe : List Str := ["thing"]
theorem sc_is_stripe : FnScope N_is_stripe ["thing"] (defScope s_is_stripe) := ⟨rfl, rfl, rfl, by decide +kernel, rfl, by decide +kernel, by decide +kernel⟩
def d_check_stripes : He.DefD := ⟨("check_stripes", none), "check_stripes", "check_stripes", defArgs s_check_stripes, defBody s_check_stripes, defScope s_check_stripes, [], []⟩
abbrev N_check_stripes : List Str := ["thing", "many", "number", "stripe"]
theorem sc_check_stripes : FnScope N_check_stripes ["thing"] (defScope s_check_stripes) := ⟨rfl, rfl, rfl, by decide +kernel, rfl, by decide +kernel, by decide +kernel⟩
def d_threads_of : He.DefD := ⟨("threads_of", none), "threads_of", "threads_of", defArgs s_threads_of, defBody s_threads_of, defScope s_threads_of, [], []⟩
abbrev N_threads_of : List Str := ["stripes", "found", "shade", "count"]
theorem sc_threads_of : FnScope N_threads_of ["stripes"] (defScope s_threads_of) := ⟨rfl, rfl, rfl, by decide +kernel, rfl, by decide +kernel, by decide +kernel⟩
def d_are_threads : He.DefD := ⟨("are_threads", none), "are_threads", "are_threads", defArgs s_are_threads, defBody s_are_threads, defScope s_are_threads, [], []⟩
abbrev N_are_threads : List Str := ["thing", "shade"]
theorem sc_are_threads : FnScope N_are_threads ["thing"] (defScope s_are_threads) := ⟨rfl, rfl, rfl, by decide +kernel, rfl, by decide +kernel, by decide +kernel⟩
-- comps are_threads: [[('shade', 1)]]
def d_merged : He.DefD := ⟨("merged", none), "merged", "merged", defArgs s_merged, defBody s_merged, defScope s_merged, [], []⟩
abbrev N_merged : List Str := ["threads", "found", "shade"]
theorem sc_merged : FnScope N_merged ["threads"] (defScope s_merged) := ⟨rfl, rfl, rfl, by decide +kernel, rfl, by decide +kernel, by decide +kernel⟩
def d_stripes_of : He.DefD := ⟨("stripes_of", none), "stripes_of", "stripes_of", defArgs s_stripes_of, defBody s_stripes_of, defScope s_stripes_of, [], []⟩
abbrev N_stripes_of : List Str := ["threads"]
theorem sc_stripes_of : FnScope N_stripes_of ["threads"] (defScope s_stripes_of) := ⟨rfl, rfl, rfl, by decide +kernel, rfl, by decide +kernel, by decide +kernel⟩
def d__law_pool : He.DefD := ⟨("_law_pool", none), "_law_pool", "_law_pool", defArgs s__law_pool, defBody s__law_pool, defScope s__law_pool, [], []⟩
abbrev N__law_pool : List Str := ["_law_script", "_law_k", "_law_cell", "_law_more", "_law_found", "_law_turn"]
theorem sc__law_pool : FnScope N__law_pool ["_law_script", "_law_k"] (defScope s__law_pool) := ⟨rfl, rfl, rfl, by decide +kernel, rfl, by decide +kernel, by decide +kernel⟩
def d__law_take : He.DefD := ⟨("_law_take", none), "_law_take", "_law_take", defArgs s__law_take, defBody s__law_take, defScope s__law_take, [], []⟩
abbrev N__law_take : List Str := ["_law_pool_here", "_law_many", "_law_digit"]
theorem sc__law_take : FnScope N__law_take ["_law_pool_here", "_law_many"] (defScope s__law_take) := ⟨rfl, rfl, rfl, by decide +kernel, rfl, by decide +kernel, by decide +kernel⟩
def d__law_some_shades : He.DefD := ⟨("_law_some_shades", none), "_law_some_shades", "_law_some_shades", defArgs s__law_some_shades, defBody s__law_some_shades, defScope s__law_some_shades, [], []⟩
abbrev N__law_some_shades : List Str := ["_law_pool_here", "_law_many", "_law_words", "_law_found", "_law_turn", "_law_size", "_law_word", "_law_place", "_law_letters", "_law_some", "_law_letter", "_law_one"]
theorem sc__law_some_shades : FnScope N__law_some_shades ["_law_pool_here", "_law_many"] (defScope s__law_some_shades) := ⟨rfl, rfl, rfl, by decide +kernel, rfl, by decide +kernel, by decide +kernel⟩
-- comps _law_some_shades: [[('_law_letter', 10)], [('_law_letter', 10)], [('_law_one', 11)]]
def d__law_drawn_stripes : He.DefD := ⟨("_law_drawn_stripes", none), "_law_drawn_stripes", "_law_drawn_stripes", defArgs s__law_drawn_stripes, defBody s__law_drawn_stripes, defScope s__law_drawn_stripes, [], []⟩
abbrev N__law_drawn_stripes : List Str := ["_law_pool_here", "_law_shades", "_law_most", "_law_wide", "_law_found", "_law_turn"]
theorem sc__law_drawn_stripes : FnScope N__law_drawn_stripes ["_law_pool_here", "_law_shades", "_law_most", "_law_wide"] (defScope s__law_drawn_stripes) := ⟨rfl, rfl, rfl, by decide +kernel, rfl, by decide +kernel, by decide +kernel⟩
def d__law_threads : He.DefD := ⟨("_law_threads", none), "_law_threads", "_law_threads", defArgs s__law_threads, defBody s__law_threads, defScope s__law_threads, [], []⟩
abbrev N__law_threads : List Str := ["_law_stripes", "_law_found", "_law_shade", "_law_count"]
theorem sc__law_threads : FnScope N__law_threads ["_law_stripes"] (defScope s__law_threads) := ⟨rfl, rfl, rfl, by decide +kernel, rfl, by decide +kernel, by decide +kernel⟩
def d__law_sort : He.DefD := ⟨("_law_sort", none), "_law_sort", "_law_sort", defArgs s__law_sort, defBody s__law_sort, defScope s__law_sort, [], []⟩
abbrev N__law_sort : List Str := ["_law_caught", "_law_kinds", "_law_families", "_law_own", "_law_words", "_law_at", "_law_due", "_law_k"]
theorem sc__law_sort : FnScope N__law_sort ["_law_caught"] (defScope s__law_sort) := ⟨rfl, rfl, rfl, by decide +kernel, rfl, by decide +kernel, by decide +kernel⟩
-- comps _law_sort: [[('_law_k', 7)]]
def d__law_whole : He.DefD := ⟨("_law_whole", none), "_law_whole", "_law_whole", defArgs s__law_whole, defBody s__law_whole, defScope s__law_whole, [], []⟩
abbrev N__law_whole : List Str := ["_law_thing"]
theorem sc__law_whole : FnScope N__law_whole ["_law_thing"] (defScope s__law_whole) := ⟨rfl, rfl, rfl, by decide +kernel, rfl, by decide +kernel, by decide +kernel⟩
def d__law_are_fewest : He.DefD := ⟨("_law_are_fewest", none), "_law_are_fewest", "_law_are_fewest", defArgs s__law_are_fewest, defBody s__law_are_fewest, defScope s__law_are_fewest, [], []⟩
abbrev N__law_are_fewest : List Str := ["_law_words", "_law_found", "_law_part", "_law_shade", "_law_count", "_law_k"]
theorem sc__law_are_fewest : FnScope N__law_are_fewest ["_law_words", "_law_found"] (defScope s__law_are_fewest) := ⟨rfl, rfl, rfl, by decide +kernel, rfl, by decide +kernel, by decide +kernel⟩
-- comps _law_are_fewest: [[('_law_shade', 3), ('_law_count', 4)], [('_law_k', 5)]]
def d__law_refused : He.DefD := ⟨("_law_refused", none), "_law_refused", "_law_refused", defArgs s__law_refused, defBody s__law_refused, defScope s__law_refused, [], []⟩
abbrev N__law_refused : List Str := ["_law_thing", "_law_caught", "e"]
theorem sc__law_refused : FnScope N__law_refused ["_law_thing"] (defScope s__law_refused) := ⟨rfl, rfl, rfl, by decide +kernel, rfl, by decide +kernel, by decide +kernel⟩
def d__law_no_threads : He.DefD := ⟨("_law_no_threads", none), "_law_no_threads", "_law_no_threads", defArgs s__law_no_threads, defBody s__law_no_threads, defScope s__law_no_threads, [], []⟩
abbrev N__law_no_threads : List Str := ["_law_pool_here", "_law_words", "_law_at", "_law_odd", "_law_found", "_law_thing"]
theorem sc__law_no_threads : FnScope N__law_no_threads ["_law_pool_here", "_law_words"] (defScope s__law_no_threads) := ⟨rfl, rfl, rfl, by decide +kernel, rfl, by decide +kernel, by decide +kernel⟩
-- comps _law_no_threads: [[('_law_thing', 5)]]
def d_law : He.DefD := ⟨("law", none), "law", "law", defArgs s_law, defBody s_law, defScope s_law, [], []⟩
abbrev N_law : List Str := ["_law_script", "_law_k", "_law_pool_here", "_law_shades", "_law_stripes", "_law_due", "_law_found", "_law_size", "_law_turn", "_law_words", "_law_thing"]
theorem sc_law : FnScope N_law ["_law_script"] (defScope s_law) := ⟨rfl, rfl, rfl, by decide +kernel, rfl, by decide +kernel, by decide +kernel⟩
-- comps law: [[('_law_turn', 8)], [('_law_thing', 10)]]
end Hd

set_option Elab.async false
set_option linter.all false
set_option maxRecDepth 100000
set_option maxHeartbeats 1000000
namespace Hd
open PySem PySem.Spec PyProof.Rows L2 PL
section
variable {Pg : Program} {w : World} {K : PySem.W.Frag} {mg : Str → Option Value} {base : Heap}
def P_is_whole : List D → Rs → Prop := fun ds r => ∃ d, d.plain = true ∧ ds = [d] ∧ r = .sh (.bl (wholeB d))
theorem c_is_whole (Dd : Df K mg "is_whole" s_is_whole []) (T : Bt mg) : C0 Pg w K mg base "is_whole" 1 ["x"] P_is_whole := by
  refine c0_mk (k := 0) Dd sc_is_whole (fun _ _ _ _ _ _ us hl => match us, hl with | [_], _ => rfl) (by decide) (fun ds r => ?_) (fun f cd A outer s H E g ds r => ?_)
  · rintro ⟨d, hp, rfl, rfl⟩
    exact ⟨rfl, fun _ z => by cases z⟩
  · rintro ⟨d, hp, rfl, rfl⟩
    have h : ∃ Γ', Ends1 (cx Pg w K mg base N_is_whole "is_whole" (defScope s_is_whole) f cd A outer s H E) (ent N_is_whole [d]) (defBody s_is_whole) (.sh (.bl (isInt d && !isBool d))) Γ' :=
      ends_rt (s_one (s1_ret (e_and (e_callB (c_isInt hp) T.isinstance b_isinstance (a_cons (e_var 0) (a_cons (e_ty T.int b_int) a_nil))) fun _ => e_one (e_not (e_callB (c_isBool hp) T.isinstance b_isinstance (a_cons (e_var 0) (a_cons (e_ty T.bool b_bool) a_nil)))))))
    have e : (isInt d && !isBool d) = wholeB d := by cases d <;> first | rfl | cases hp
    rw [e] at h
    exact h
def P_is_word : List D → Rs → Prop := fun ds r => ∃ d most, Pl d ∧ ds = [d, .int most] ∧ r = .sh (.bl (wordD most d))
theorem c_allR {X : Cx} {n : Nat} {b : Nat → Bool} (hc : X.calm = true) : CallS X (.builtin "all") [.lst ((List.range n).map fun j => .bl (b j))] (.sh (.bl ((List.range n).all b))) := by
  have h := c_all (X := X) (ns := (List.range n).map b) hc
  rw [List.map_map] at h
  rw [show ((List.range n).map b).all id = (List.range n).all b by rw [List.all_map]; rfl] at h
  exact h
theorem c_is_word (Dd : Df K mg "is_word" s_is_word []) (T : Bt mg) (G_L : ∃ t, mg "LETTERS" = some (.str letters t)) : C0 Pg w K mg base "is_word" 1 ["thing", "most"] P_is_word := by
  obtain ⟨tL, gL⟩ := G_L
  refine c0_mk (k := 0) Dd sc_is_word (fun _ _ _ _ _ _ us hl => match us, hl with | [_, _], _ => rfl) (by decide) (fun ds r => ?_) (fun f cd A outer s H E g ds r => ?_)
  · rintro ⟨d, most, hp, rfl, rfl⟩
    exact ⟨rfl, fun _ z => by cases z⟩
  · rintro ⟨d, most, hp, rfl, rfl⟩
    cases d with
    | str x =>
      refine ends_eq (ends_rt (s_one (s1_ret (e_andT (e_callB (c_isStr rfl) T.isinstance b_isinstance (a_cons (e_var 0) (a_cons (e_ty T.str b_str) a_nil)))
        (e_and (e_chainI e_int (e_callB (c_lenS hp) T.len b_len (a_cons (e_var 0) a_nil)) (e_var 1)) fun _ => e_one
          (e_callB (c_allR g.calm) T.all b_all (a_cons (e_frz (e_lc1 2 (fun j => .bl (decide (x.cps.getD j 0 ∈ letters.cps.toList))) g (it_str (e_var 0)) hp (blkOk_by (N := N_is_word) (sc := defScope s_is_word) (by decide +kernel)) rfl
            (fun j hj s1 H1 C cl fp => e_cmp o_inSign (e_var 2) (e_globS gL)))) a_nil))))))) ?_
      rfl
    | obj _ _ _ => cases hp
    | raw _ => cases hp
    | ext _ => cases hp
    | fls _ => cases hp
    | _ => exact ends_rt (s_one (s1_ret (e_andF (e_callB (c_isStr rfl) T.isinstance b_isinstance (a_cons (e_var 0) (a_cons (e_ty T.str b_str) a_nil))))))
def P_is_shade : List D → Rs → Prop := fun ds r => ∃ d, Pl d ∧ ds = [d] ∧ r = .sh (.bl (shadeD d))
theorem c_is_shade (Dd : Df K mg "is_shade" s_is_shade []) (G_is_word : C0 Pg w K mg base "is_word" 1 ["thing", "most"] P_is_word) : C0 Pg w K mg base "is_shade" 2 ["thing"] P_is_shade := by
  refine c0_mk (k := 1) Dd sc_is_shade (fun _ _ _ _ _ _ us hl => match us, hl with | [_], _ => rfl) (by decide) (fun ds r => ?_) (fun f cd A outer s H E g ds r => ?_)
  · rintro ⟨d, hp, rfl, rfl⟩
    exact ⟨rfl, fun _ z => by cases z⟩
  · rintro ⟨d, hp, rfl, rfl⟩
    exact ends_rt (s_one (s1_ret (e_c0 G_is_word g (a_cons (e_var 0) (a_cons e_int a_nil)) ⟨_, _, hp, rfl, rfl⟩)))
def P_is_stripe : List D → Rs → Prop := fun ds r => ∃ p, okStripe p ∧ ds = [dP p] ∧ r = .sh (.bl true)
theorem c_is_stripe (Dd : Df K mg "is_stripe" s_is_stripe []) (T : Bt mg) (G_is_shade : C0 Pg w K mg base "is_shade" 2 ["thing"] P_is_shade) (G_is_whole : C0 Pg w K mg base "is_whole" 1 ["x"] P_is_whole) : C0 Pg w K mg base "is_stripe" 3 ["thing"] P_is_stripe := by
  refine c0_mk (k := 2) Dd sc_is_stripe (fun _ _ _ _ _ _ us hl => match us, hl with | [_], _ => rfl) (by decide) (fun ds r => ?_) (fun f cd A outer s H E g ds r => ?_)
  · rintro ⟨p, hp, rfl, rfl⟩
    exact ⟨rfl, fun _ z => by cases z⟩
  · rintro ⟨p, hp, rfl, rfl⟩
    refine ends_eq (ends_rt (s_ifN (t_eq (t_w (w_or (t_not (t_val (e_callB (c_isTup rfl) T.isinstance b_isinstance (a_cons (e_var 0) (a_cons (e_ty T.tuple b_tuple) a_nil))))) fun h => (w_or1 (t_cmp o_neI (e_callB c_lenT T.len b_len (a_cons (e_var 0) a_nil)) e_int)))) rfl)
      (s_one (s1_ret (e_and (e_c0 G_is_shade g (a_cons (e_ix (e_var 0) e_int (i_tup (d := .str p.1) rfl)) a_nil) ⟨_, shade_pl hp.1, rfl, rfl⟩) fun h => (e_and (e_c0 G_is_whole g (a_cons (e_ix (e_var 0) e_int (i_tup (d := .int p.2) rfl)) a_nil) ⟨_, rfl, rfl, rfl⟩) fun h => (e_one (e_cmp o_gt (e_ix (e_var 0) e_int (i_tup (d := .int p.2) rfl)) e_int)))))))) ?_
    have h1 : shadeD (.str p.1) = true := hp.1
    rw [h1, decide_eq_true hp.2]
    rfl
def P_check_stripes : List D → Rs → Prop := fun ds r => ∃ ps, OkSt ps ∧ ds = [dS ps] ∧ r = .sh .non
theorem c_check_stripes (Dd : Df K mg "check_stripes" s_check_stripes []) (T : Bt mg) (G_M : ∃ t, mg "MOST" = some (.int 240 t)) (G_is_stripe : C0 Pg w K mg base "is_stripe" 3 ["thing"] P_is_stripe) : C0 Pg w K mg base "check_stripes" 4 ["thing"] P_check_stripes := by
  obtain ⟨tM, gM⟩ := G_M
  refine c0_mk (k := 3) Dd sc_check_stripes (fun _ _ _ _ _ _ us hl => match us, hl with | [_], _ => rfl) (by decide) (fun ds r => ?_) (fun f cd A outer s H E g ds r => ?_)
  · rintro ⟨ps, hp, rfl, rfl⟩
    exact ⟨rfl, fun _ z => by cases z⟩
  · rintro ⟨ps, hp, rfl, rfl⟩
    have hpos : ∀ p ∈ ps, 0 < p.2 := fun p h => (hp.ok p h).2
    refine ends_nx (s_ifN (t_eq (t_w (w_or (t_not (t_val (e_callB (c_isTup rfl) T.isinstance b_isinstance (a_cons (e_var 0) (a_cons (e_ty T.tuple b_tuple) a_nil))))) fun h => (w_or1 (t_cmp (o_eqT0 g.rm.units (cmp_dS fun p h => shade_ok (hp.ok p h).1)) (e_var 0) (e_tup a_nil))))) ?_)
      (s_cons (s1_set 1 g.nd e_int) (s_cons (s1_for g (it_enumT T.enumerate (a_cons (e_var 0) a_nil)) (fun j => [.sh (dS ps), .sh (.int (tot (ps.take j))), .un, .un]) (fun j => [.sh (dS ps), .sh (.int (tot (ps.take j))), .sh (.int (j : Nat)), .sh (itd (ps.map dP) j)]) .refl
        (fun j hj => g_tup g.calm (gs_cons (g_name 2 g.nd) (gs_cons (g_name 3 g.nd) gs_nil))) (fun j hj => .inl ?_)) s_nil)))
    · have : ps.isEmpty = false := by cases ps with | nil => exact absurd rfl hp.ne | cons x r => rfl
      show (!true || (ps.map dP).isEmpty) = false
      rw [List.isEmpty_map, this]; rfl
    · have hj' : j < ps.length := by simpa using hj
      rw [itd_map dP ps j hj']
      have ok := hp.ok _ (List.getElem_mem hj')
      have le := Int.le_trans (tot_take hpos (j + 1)) hp.le
      rw [tot_succ hj'] at le
      refine s_wk (s_ifN (t_eq (t_not (t_val (e_c0 G_is_stripe g (a_cons (e_var 3) a_nil) ⟨_, ok, rfl, rfl⟩))) rfl) (s_cons (s1_aug 1 g.nd ip_addI rfl (e_ix (e_var 3) e_int (i_tup (d := .int ps[j].2) rfl))) (s_ifN (t_eq (t_cmp o_gt (e_var 1) (e_globI gM)) (decide_eq_false (by omega))) s_nil))) ?_
      rw [tot_succ hj']
      exact Wk.cv ⟨rfl, fun i s e => by
        match i, e with
        | 0, e => exact .inr e
        | 1, e => exact .inr e
        | 2, e => cases e; exact .inl rfl
        | 3, e => cases e; exact .inl rfl⟩
end
end Hd

set_option Elab.async false
set_option linter.all false
set_option maxRecDepth 100000
set_option maxHeartbeats 1000000
namespace Hd
open PySem PySem.Spec PyProof.Rows L2 PL
section
variable {Pg : Program} {w : World} {K : PySem.W.Frag} {mg : Str → Option Value} {base : Heap}
theorem big2000 : (2000 : Nat) < sizeLine := by decide
def P_threads_of : List D → Rs → Prop := fun ds r => ∃ ps, OkSt ps ∧ ds = [dS ps] ∧ r = .sh (dT (thr ps))
theorem big240 : (240 : Nat) < sizeLine := by decide
theorem c_threads_of (Dd : Df K mg "threads_of" s_threads_of []) (T : Bt mg) (G_check_stripes : C0 Pg w K mg base "check_stripes" 4 ["thing"] P_check_stripes) : C0 Pg w K mg base "threads_of" 5 ["stripes"] P_threads_of := by
  refine c0_mk (k := 4) Dd sc_threads_of (fun _ _ _ _ _ _ us hl => match us, hl with | [_], _ => rfl) (by decide) (fun ds r => ?_) (fun f cd A outer s H E g ds r => ?_)
  · rintro ⟨ps, hp, rfl, rfl⟩
    exact ⟨rfl, fun _ z => by cases z⟩
  · rintro ⟨ps, hp, rfl, rfl⟩
    have hpos : ∀ p ∈ ps, 0 < p.2 := fun p h => (hp.ok p h).2
    refine ends_eq (ends_rt (s_cons (s1_expr (e_c0 G_check_stripes g (a_cons (e_var 0) a_nil) ⟨ps, hp, rfl, rfl⟩)) (s_cons (s1_set 1 g.nd (e_lst a_nil)) (s_cons (s1_for g (it_tup (e_var 0)) (fun j => [.sh (dS ps), .ow (.lst ((thr (ps.take j)).map .str)), .un, .un]) (fun j => [.sh (dS ps), .ow (.lst ((thr (ps.take j)).map .str)), .sh (.str (ps.getD j default).1), .sh (.int (ps.getD j default).2)]) .refl (fun j hj => ?_) (fun j hj => .inl ?_))
      (s_one (s1_ret (e_callTy c_tupL T.tuple b_tuple (a_cons (e_cv (cv_frz (i := 1) rfl) (e_var 1)) a_nil)))))))) ?_
    · have hj' : j < ps.length := by simpa using hj
      rw [itd_map dP ps j hj', List.getD_eq_getElem?_getD, List.getElem?_eq_getElem hj']
      exact g_tup g.calm (gs_cons (g_name 2 g.nd) (gs_cons (g_name 3 g.nd) gs_nil))
    · have hj' : j < ps.length := by simpa using hj
      rw [List.getD_eq_getElem?_getD, List.getElem?_eq_getElem hj']
      have le := Int.le_trans (tot_take hpos (j + 1)) hp.le
      have hl := thr_len (ps := ps.take (j + 1)) fun p h => hpos p (List.mem_of_mem_take h)
      have hl2 := hl
      rw [thr_succ hj', List.length_append, List.length_replicate] at hl2
      have pj := hpos _ (List.getElem_mem hj')
      have b := big240
      refine s_wk (s_one (s1_expr (e_extend (i := 1) (e_fz (e_bin (o_repL (ds := [.str ps[j].1]) (k := ps[j].2) (by omega) (by omega) (by show 1 * _ ≤ _; omega)) (e_fz (e_lst (a_cons (e_var 2) a_nil))) (e_var 3))) ⟨_, _, has_ow, _, rfl⟩ has_ow ?_))) ?_
      · rw [List.length_map]
        show _ + (List.replicate _ [D.str ps[j].1]).flatten.length ≤ _
        rw [PyProof.Rows.lm_len_rep_flat]
        show _ + _ * 1 ≤ _
        omega
      · have e : (thr (ps.take j)).map D.str ++ (List.replicate (ps[j].2).toNat [D.str ps[j].1]).flatten = (thr (ps.take (j + 1))).map .str := by
          rw [thr_succ hj', List.map_append, List.map_replicate]
          congr 1
          generalize (ps[j].2).toNat = n
          induction n with
          | zero => rfl
          | succ n ih => rw [List.replicate_succ, List.replicate_succ, List.flatten_cons, ih]; rfl
        show Cv K [.sh (dS ps), .ow (.lst ((thr (ps.take j)).map .str ++ (List.replicate (ps[j].2).toNat [D.str ps[j].1]).flatten)), .sh (.str ps[j].1), .sh (.int ps[j].2)] _
        rw [e]
        exact Wk.cv (.keep (.keep (.drop (.drop .nil))))
    · show Rs.sh (.tup ((thr (ps.take (ps.map dP).length)).map .str)) = _
      rw [List.length_map, List.take_length]
def P_merged : List D → Rs → Prop := fun ds r => ∃ ts, (∀ t ∈ ts, okS t) ∧ ts.length ≤ 1000 ∧ ds = [dT ts] ∧ r = .sh (dS (mrg ts))
theorem mrg_len (ts : List Str) : ∀ acc : List (Str × Int), (ts.foldl mrgStep acc).length ≤ acc.length + ts.length := by
  induction ts with
  | nil => intro acc; exact Nat.le_refl _
  | cons s ts ih =>
    intro acc
    refine Nat.le_trans (ih (mrgStep acc s)) ?_
    have : (mrgStep acc s).length ≤ acc.length + 1 := by
      unfold mrgStep
      split
      · split
        · rename_i h _
          have : acc ≠ [] := fun z => by rw [z] at h; cases h
          have := List.length_pos_iff.mpr this
          rw [List.length_append, List.length_dropLast]
          show acc.length - 1 + 1 ≤ _
          omega
        · simp
      · simp
    rw [List.length_cons]; omega
theorem mrg_mem (P : Str → Prop) : ∀ ts : List Str, (∀ t ∈ ts, P t) → ∀ p ∈ mrg ts, P p.1 := by
  intro ts
  suffices h : ∀ acc : List (Str × Int), (∀ p ∈ acc, P p.1) → (∀ t ∈ ts, P t) → ∀ p ∈ ts.foldl mrgStep acc, P p.1 from h [] (fun _ z => by cases z)
  induction ts with
  | nil => intro acc h _; exact h
  | cons s ts ih =>
    intro acc h ht
    refine ih _ (fun p hp => ?_) fun t z => ht t (List.mem_cons_of_mem _ z)
    have hs := ht s (List.mem_cons_self ..)
    unfold mrgStep at hp
    split at hp
    · split at hp
      · rcases List.mem_append.mp hp with z | z
        · exact h p (List.dropLast_subset _ z)
        · rw [List.mem_singleton.mp z]; exact hs
      · rcases List.mem_append.mp hp with z | z
        · exact h p z
        · rw [List.mem_singleton.mp z]; exact hs
    · rw [List.mem_singleton.mp hp]; exact hs
theorem dropLast_set {α : Type} (xs : List α) (y : α) (h : xs ≠ []) : xs.set (xs.length - 1) y = xs.dropLast ++ [y] := by
  have e := List.dropLast_concat_getLast h
  have hl := List.length_pos_iff.mpr h
  rw [← e]
  rw [List.set_append_right _ _ (by simp)]
  simp
theorem c_merged (Dd : Df K mg "merged" s_merged []) (T : Bt mg) : C0 Pg w K mg base "merged" 1 ["threads"] P_merged := by
  refine c0_mk (k := 0) Dd sc_merged (fun _ _ _ _ _ _ us hl => match us, hl with | [_], _ => rfl) (by decide) (fun ds r => ?_) (fun f cd A outer s H E g ds r => ?_)
  · rintro ⟨ts, ho, hp, rfl, rfl⟩
    exact ⟨rfl, fun _ z => by cases z⟩
  · rintro ⟨ts, ho, hp, rfl, rfl⟩
    refine ends_eq (ends_rt (s_cons (s1_set 1 g.nd (e_lst a_nil)) (s_cons (s1_for g (it_tup (e_var 0)) (fun j => [.sh (dT ts), .ow (.lst ((mrg (ts.take j)).map dP)), .un]) (fun j => [.sh (dT ts), .ow (.lst ((mrg (ts.take j)).map dP)), .sh (.str (ts.getD j default))]) .refl (fun j hj => ?_) (fun j hj => .inl ?_))
      (s_one (s1_ret (e_callTy c_tupL T.tuple b_tuple (a_cons (e_cv (cv_frz (i := 1) rfl) (e_var 1)) a_nil))))))) ?_
    · have hj' : j < ts.length := by simpa using hj
      rw [itd_map D.str ts j hj', List.getD_eq_getElem?_getD, List.getElem?_eq_getElem hj']
      exact g_name 2 g.nd
    · have hj' : j < ts.length := by simpa using hj
      rw [List.getD_eq_getElem?_getD, List.getElem?_eq_getElem hj', List.take_succ_eq_append_getElem hj', mrg_snoc]
      have hlen : (mrg (ts.take j)).length ≤ 1000 := by
        have := mrg_len (ts.take j) []
        unfold mrg
        rw [List.length_take] at this
        simp only [List.length_nil] at this
        omega
      have hok : ∀ p ∈ mrg (ts.take j), okS p.1 := mrg_mem okS _ fun t z => ho t (List.mem_of_mem_take z)
      generalize mrg (ts.take j) = ms at hlen hok
      have b : (1000 : Nat) < sizeLine := by decide
      show SX _ [.sh (dT ts), .ow (.lst (ms.map dP)), .sh (.str ts[j])] _ _
      cases hms : ms.getLast? with
      | none =>
        have e : ms = [] := by simpa using hms
        subst e
        refine s_wk (s_one (s1_ifF (t_eq (t_w (w_andF (t_ro (t_eq (t_cmp (o_neL0 g.rm.units cmp_l0) (e_var 1) (e_fz (e_lst a_nil))) rfl)))) rfl) (s_one (s1_expr (e_append (i := 1) (e_tup (a_cons (e_var 2) (a_cons e_int a_nil))) ⟨_, _, has_ow, _, rfl⟩ has_ow (by show 0 < sizeLine; decide)))))) ?_
        show Cv K [.sh (dT ts), .ow (.lst [.tup [.str ts[j], .int 1]]), .sh (.str ts[j])] _
        exact Wk.cv (.keep (.keep (.drop .nil)))
      | some p =>
        obtain ⟨t, n⟩ := p
        have hne : ms ≠ [] := fun z => by rw [z] at hms; cases hms
        have hlast : atI ms (-1) = some (t, n) := by
          have e := List.dropLast_concat_getLast hne
          have e2 : ms.getLast hne = (t, n) := by
            rw [List.getLast?_eq_getLast hne] at hms
            exact Option.some.inj hms
          rw [e2] at e
          rw [← e]
          exact atI_last _ _
        have hl2 : atI (ms.map dP) (-1) = some (dP (t, n)) := by rw [atI_map, hlast]; rfl
        have hlp := List.length_pos_iff.mpr hne
        have hem : (ms.map dP).isEmpty = false := by
          cases ms with
          | nil => exact absurd rfl hne
          | cons x r => rfl
        have hcm : Cmp (.lst (ms.map dP)) := cmp_dSl hok
        by_cases htj : t = ts[j]
        · have hix : ixN (ms.map dP).length (-1) = some (ms.length - 1) := by
            unfold ixN
            rw [List.length_map, if_neg (by decide), if_pos (by omega)]
            congr 1
            omega
          refine s_wk (s_one (s1_ifT (t_eq (t_ro (t_eq (t_w (w_andT (t_eq (t_cmp (o_neL0 g.rm.units hcm) (e_var 1) (e_fz (e_lst a_nil))) (by rw [hem]; rfl)) (w_and1 (t_cmp o_eqS (e_ix (e_ix (e_var 1) (e_neg e_int) (i_list hl2)) e_int (i_tup (d := .str t) rfl)) (e_var 2))))) rfl)) (decide_eq_true htj)) (s_one (s1_asg (g_setix (n := 1) has_ow (e_neg e_int) hix) (e_tup (a_cons (e_var 2) (a_cons (e_bin o_addI (e_ro (e_ix (e_ix (e_var 1) (e_neg e_int) (i_list hl2)) e_int (i_tup (d := .int n) rfl)) trivial) e_int) a_nil))))))) ?_
          have e : (ms.map dP).set (ms.length - 1) (.tup [.str ts[j], .int (n + 1)]) = (mrgStep ms ts[j]).map dP := by
            unfold mrgStep
            rw [hms]
            show _ = (if t = ts[j] then ms.dropLast ++ [(ts[j], n + 1)] else _).map dP
            rw [if_pos htj, ← dropLast_set ms _ hne, List.map_set]
          show Cv K [.sh (dT ts), .ow (.lst ((ms.map dP).set (ms.length - 1) (.tup [.str ts[j], .int (n + 1)]))), .sh (.str ts[j])] _
          rw [e]
          exact Wk.cv (.keep (.keep (.drop .nil)))
        · refine s_wk (s_one (s1_ifF (t_eq (t_ro (t_eq (t_w (w_andT (t_eq (t_cmp (o_neL0 g.rm.units hcm) (e_var 1) (e_fz (e_lst a_nil))) (by rw [hem]; rfl)) (w_and1 (t_cmp o_eqS (e_ix (e_ix (e_var 1) (e_neg e_int) (i_list hl2)) e_int (i_tup (d := .str t) rfl)) (e_var 2))))) rfl)) (decide_eq_false htj)) (s_one (s1_expr (e_append (i := 1) (e_tup (a_cons (e_var 2) (a_cons e_int a_nil))) ⟨_, _, has_ow, _, rfl⟩ has_ow (by rw [List.length_map]; omega)))))) ?_
          have e : ms.map dP ++ [.tup [.str ts[j], .int 1]] = (mrgStep ms ts[j]).map dP := by
            unfold mrgStep
            rw [hms]
            show _ = (if t = ts[j] then ms.dropLast ++ [(ts[j], n + 1)] else ms ++ [(ts[j], 1)]).map dP
            rw [if_neg htj, List.map_append]
            rfl
          show Cv K [.sh (dT ts), .ow (.lst (ms.map dP ++ [.tup [.str ts[j], .int 1]])), .sh (.str ts[j])] _
          rw [e]
          exact Wk.cv (.keep (.keep (.drop .nil)))
    · show Rs.sh (.tup ((mrg (ts.take (ts.map D.str).length)).map dP)) = _
      rw [List.length_map, List.take_length]
end
end Hd

set_option Elab.async false
set_option linter.all false
set_option maxRecDepth 100000
set_option maxHeartbeats 1000000
namespace PL
open PySem PySem.Spec PyProof.Rows L2
section
variable {X : Cx} {Γ Γ1 : Gm} {iter elt : Ex} {scope : Scope} {pos px py tp : Pos} {n k kk : Nat} {it f a b : Nat → D} {x y : Str}
theorem cv_reset2 {K : PySem.W.Frag} {i j : Nat} {d e : D} (h : Γ[i]? = some .un) (h2 : Γ[j]? = some .un) : Cv K ((Γ.set i (.sh d)).set j (.sh e)) Γ := Wk.cv ⟨by rw [List.length_set, List.length_set], fun l s q => by
  by_cases hl : l = j
  · subst hl; rw [h2] at q; exact .inl (Option.some.inj q).symm
  · rw [List.getElem?_set_ne (Ne.symm hl)]
    by_cases hl2 : l = i
    · subst hl2; rw [h] at q; exact .inl (Option.some.inj q).symm
    · rw [List.getElem?_set_ne (Ne.symm hl2)]; exact .inr q⟩
/-- [e for x, y in ..], no test, no effect -/
theorem lc2 (i j : Nat) (gd : Gd k X) (hI : IterX X (.Tuple [.Name x px, .Name y py] kk tp) iter Γ n it Γ1) (hit : ∀ l, l < n → it l = .tup [a l, b l]) (hn : n ≤ sizeLine) (ok : BlkOk X.N X.env.scope scope [(x, i), (y, j)]) (hu : Γ1[i]? = some .un) (hv : Γ1[j]? = some .un)
    (he : ∀ l, l < n → ∀ s H C cl fp, EX (bk X scope s H C cl fp) ((Γ1.set i (.sh (a l))).set j (.sh (b l))) elt (.sh (f l)) ((Γ1.set i (.sh (a l))).set j (.sh (b l)))) (hi : X.N[i]? = some x := by rfl) (hj : X.N[j]? = some y := by rfl) (hx : ∀ s H C cl fp, Loc (bk X scope s H C cl fp).env.scope x := by exact fun _ _ _ _ _ => Or.inl rfl) (hy : ∀ s H C cl fp, Loc (bk X scope s H C cl fp).env.scope y := by exact fun _ _ _ _ _ => Or.inl rfl)
    (hf : ∀ s H C cl fp, (bk X scope s H C cl fp).fn x = true ∨ (bk X scope s H C cl fp).env.scope.names.lookup x = some .local := by exact fun _ _ _ _ _ => Or.inr rfl) (hf2 : ∀ s H C cl fp, (bk X scope s H C cl fp).fn y = true ∨ (bk X scope s H C cl fp).env.scope.names.lookup y = some .local := by exact fun _ _ _ _ _ => Or.inr rfl)
    (h1 : ∀ s H C cl fp, (assignEach [.Name x px, .Name y py] (bk X scope s H C cl fp).env).map (·.2) = assign (.Name x px) (bk X scope s H C cl fp).env :: (assignEach [.Name y py] (bk X scope s H C cl fp).env).map (·.2) := by intros; rfl)
    (h2 : ∀ s H C cl fp, (assignEach [.Name y py] (bk X scope s H C cl fp).env).map (·.2) = assign (.Name y py) (bk X scope s H C cl fp).env :: (assignEach [] (bk X scope s H C cl fp).env).map (·.2) := by intros; rfl)
    (h3 : ∀ s H C cl fp, (assignEach [.Name x px, .Name y py] (bk X scope s H C cl fp).env).length = 2 := by intros; rfl) (h4 : ∀ s H C cl fp, (assignEach [.Name x px, .Name y py] (bk X scope s H C cl fp).env).findIdx? (·.1) = none := by intros; rfl) :
    LcX X Γ (.Tuple [.Name x px, .Name y py] kk tp) iter [] elt scope [(x, i), (y, j)] n (fun _ => true) f Γ1 :=
  ⟨it, Γ1, gTup X.K 2 (gCons (gName i) (gCons (gName j) gNil)), fun _ => Γ1, fun l => (Γ1.set i (.sh (a l))).set j (.sh (b l)), fun l => (Γ1.set i (.sh (a l))).set j (.sh (b l)), fun l => (Γ1.set i (.sh (a l))).set j (.sh (b l)), hn, hI, ok, .refl,
    fun l hl z hz s e => by
      rcases List.mem_cons.mp hz with rfl | hz
      · rw [hu] at e; exact (Option.some.inj e).symm
      · rw [List.mem_singleton.mp hz, hv] at e; exact (Option.some.inj e).symm,
    fun s H C cl fp => pg_tup gd.calm (pgs_cons (pg_name gd.nd hi (hx s H C cl fp) (hf s H C cl fp)) (pgs_cons (pg_name gd.nd hj (hy s H C cl fp) (hf2 s H C cl fp)) pgs_nil (h2 s H C cl fp)) (h1 s H C cl fp)) (h3 s H C cl fp) (h4 s H C cl fp),
    fun l hl => by
      rw [hit l hl]
      exact tgt_two i j (.head _) (.tail _ (.head _)) (List.getElem?_eq_some_iff.mp hu).1 (List.getElem?_eq_some_iff.mp hv).1,
    .inl ⟨rfl, fun _ => rfl, rfl⟩, fun l hl _ => he l hl, fun l hl _ => cv_reset2 hu hv, fun _ _ z => Bool.noConfusion z, rfl⟩
theorem e_lc2 (i j : Nat) (gd : Gd k X) (h : LcX X Γ (.Tuple [.Name x px, .Name y py] kk tp) iter [] elt scope [(x, i), (y, j)] n (fun _ => true) f Γ1) (hs : ∀ x, foldedSetIterable iter X.env x = pure x := by intro _; rfl) : EX X Γ (.ListComp elt [⟨.Tuple [.Name x px, .Name y py] kk tp, iter, [], 0⟩] scope pos) (.ow (.lst ((List.range n).map f))) Γ1 := by
  rw [← took_all]
  exact e_lc gd h hs
/-- x in [ints] -/
theorem inV_ints (x : Int) : ∀ xs : List Int, inV (.int x) (xs.map V.int) = decide (x ∈ xs)
  | [] => rfl
  | y :: ys => by
    show ((y == x) || inV (.int x) (ys.map V.int)) = _
    rw [inV_ints x ys]
    by_cases h : y = x
    · subst h; simp
    · have h2 : x ≠ y := fun e => h e.symm
      rw [beq_eq_false_iff_ne.mpr h, Bool.false_or]
      simp [h2]
theorem flat_intsV (xs : List Int) : (xs.map V.int).all flatV = true := by
  rw [List.all_eq_true]
  intro v hv
  obtain ⟨x, _, rfl⟩ := List.mem_map.mp hv
  rfl
theorem o_inI {x : Int} {xs : List Int} : OpS X (compareOp .In) (.int x) (.lst (xs.map .int)) (.sh (.bl (decide (x ∈ xs)))) := ops_sc op_in_seq (.bl _) (fun _ => rfl) fun H S v y Q s r1 r2 q => by
  obtain ⟨p, vs, rfl, h1, h2⟩ := r2
  rw [h2.ints] at h1
  obtain rfl : v = .int x := r1
  refine ⟨p, _, rfl, .inl (.of (s _ _ h1)), rfl, flat_intsV xs, ?_⟩
  rw [if_neg (by decide), inV_ints]
  exact q
theorem o_ninI {x : Int} {xs : List Int} : OpS X (compareOp .NotIn) (.int x) (.lst (xs.map .int)) (.sh (.bl (!decide (x ∈ xs)))) := ops_sc op_notIn_seq (.bl _) (fun _ => rfl) fun H S v y Q s r1 r2 q => by
  obtain ⟨p, vs, rfl, h1, h2⟩ := r2
  rw [h2.ints] at h1
  obtain rfl : v = .int x := r1
  refine ⟨p, _, rfl, .inl (.of (s _ _ h1)), rfl, flat_intsV xs, ?_⟩
  rw [if_pos rfl, inV_ints]
  exact q
end
end PL

set_option Elab.async false
set_option linter.all false
set_option maxRecDepth 100000
set_option maxHeartbeats 1000000
namespace PL
open PySem PySem.Spec PyProof.Rows L2
section
variable {X : Cx} {Γ Γ1 Γ2 : Gm} {iter elt tg : Ex} {ifs : List Ex} {scope : Scope} {pos px py tp : Pos} {n k kk : Nat} {it f a b : Nat → D} {t : Nat → Bool} {x y : Str} {own : List (Str × Nat)}
theorem s1_eq {st : Stmt} (h : S1 X Γ st (.nx Γ1)) (e : Γ1 = Γ2) : S1 X Γ st (.nx Γ2) := e ▸ h
theorem lc1 (i : Nat) (f : Nat → D) (gd : Gd k X) (hI : IterX X (.Name x px) iter Γ n it Γ1) (hn : n ≤ sizeLine) (ok : BlkOk X.N X.env.scope scope [(x, i)]) (hu : Γ1[i]? = some .un)
    (he : ∀ j, j < n → ∀ s H C cl fp, EX (bk X scope s H C cl fp) (Γ1.set i (.sh (it j))) elt (.sh (f j)) (Γ1.set i (.sh (it j)))) (hi : X.N[i]? = some x := by rfl) (hx : ∀ s H C cl fp, Loc (bk X scope s H C cl fp).env.scope x := by exact fun _ _ _ _ _ => Or.inl rfl)
    (hf : ∀ s H C cl fp, (bk X scope s H C cl fp).fn x = true ∨ (bk X scope s H C cl fp).env.scope.names.lookup x = some .local := by exact fun _ _ _ _ _ => Or.inr rfl) : LcX X Γ (.Name x px) iter [] elt scope [(x, i)] n (fun _ => true) f Γ1 :=
  lcG i (fun _ => Γ1) (fun j => Γ1.set i (.sh (it j))) gd hI hn ok .refl (fun _ _ => hu) he (fun j _ => cv_reset hu) hi hx hf
/-- y = [..], never changed again -/
theorem s1_setLcF {Γ' : Gm} (i : Nat) {y : Str} {py spos : Pos} {L : List D} (gd : Gd k X) (h : LcX X Γ tg iter ifs elt scope own n t f Γ') (eL : took t f n = L) (hl : i < Γ'.length := by exact Nat.le_of_ble_eq_true rfl) (hy : X.N[i]? = some y := by rfl) (hyl : X.env.scope.names.lookup y = some .local := by rfl)
    (hsw : swapsWith (.ListComp elt [⟨tg, iter, ifs, 0⟩] scope pos) (some (.Name y py)) spos.line X.env = pure true := by exact sw_true rfl rfl rfl (by decide +kernel)) (hs : ∀ x, foldedSetIterable iter X.env x = pure x := by intro _; rfl) : S1 X Γ (.Assign [.Name y py] (.ListComp elt [⟨tg, iter, ifs, 0⟩] scope pos) spos) (.nx (Γ'.set i (.sh (.lst L)))) := by
  have h1 := s1_setLc (py := py) (spos := spos) (pos := pos) i gd h hl hy hyl hsw hs
  have h2 : (Γ'.set i (.ow (.lst (took t f n))))[i]? = some (.ow (.lst (took t f n))) := List.getElem?_set_self hl
  have h3 := s1_wk h1 (cv_frz h2)
  rw [List.set_set, eL] at h3
  exact h3
end
end PL

set_option Elab.async false
set_option linter.all false
set_option maxRecDepth 100000
set_option maxHeartbeats 1000000
/-! f(e, e'), both new objects that f may change -/
namespace PL
open PySem PySem.Spec PyProof.Rows L2
section
variable {X : Cx} {Γ Γ1 Γ2 : Gm} {e e' : Ex} {p pos : Pos} {r : Rs} {j k : Nat} {ps : List Str} {x : Str}
/-- what was made ahead stays while e' is walked: the frame of this very state keeps it -/
theorem e_c2n {P : Ob → Ob → List D → Rs → Ob → Ob → Prop} {o o' u u' : Ob} (G : C2 X.prog X.w X.K X.mg X.base x j ps P) (g : Gd k X) (h : EX X Γ e (.ow o) Γ1) (h' : EX X Γ1 e' (.ow u) Γ2) (hp : P o u [] r o' u') (hk : j ≤ k := by decide) (hg : Gl X x := by rfl)
    (hdb : (x == ("__debug__" : Str)) = false := by decide) (he : starEach [e, e'] X.env = (false, eval e X.env) :: starEach [e'] X.env := by rfl) (he2 : starEach [e'] X.env = (false, eval e' X.env) :: starEach [] X.env := by rfl) (hpl : (backTo pos (starEach [e'] X.env)).any (·.1) = false := by rfl) : EX X Γ (.Call (.Name x p) [e, e'] [] pos) r Γ2 := fun F σ H S Q R q => by
  obtain ⟨f, fd, gm, kp, b, Fo⟩ := G.ex
  refine pe_we (pe_call Fo (g.rm.mono hk) hg gm kp b .nil passL (pa_cons we_pe (pa_cons we_pe pa_nil he2) he) hdb he hpl) (h F σ H S _ R fun v H1 S1 R1 s1 ok => ?_)
  obtain ⟨a, rfl, n1, n2, obr, no⟩ := ok
  have Rb := R1.rebase
  obtain ⟨y, hy⟩ := obr.there
  refine h' _ σ H1 S1 _ Rb fun v2 H2 S2 R2 s2 ok2 => ?_
  obtain ⟨a2, rfl, m1, m2, obr2, no2⟩ := ok2
  have ka : H2 a = some y := R2.kp a y no hy
  have na : S2 a = none := R2.new a y hy no n1
  have R3 := R1.back R2
  have nea : a ≠ a2 := fun z => by
    have m2' : H1 a2 = none := m2
    rw [← z, hy] at m2'; cases m2'
  have noa : ¬ Own Γ2 σ a := fun ⟨i, ow⟩ => by
    rcases (R2.own ow).2.1 with z | z
    · have z' : H1 a = none := z
      rw [hy] at z'; cases z'
    · exact no z
  have ob1 : ObR X.K S2 H2 a o := obr.mono s2 fun z hz => by rw [hy] at hz; cases hz; exact ka
  refine ⟨S2, o, u, [], r, o', u', a, a2, [], hp, rfl, nea, R3.sh, na, m1, ob1, obr2, rfl, fun v H4 S4 t n3 n4 ob3 ub3 => ?_⟩
  have h0a2 : F.H0 a2 = none := R1.h0None m2
  obtain ⟨R4, ok4⟩ := R3.after t (fun b z => .inr (z.elim (fun z => by rw [z]; exact n2) fun z => by rw [z]; exact h0a2)) rfl fun i s es => .inl ⟨es, fun b ow z => z.elim (fun z => noa ⟨i, by rw [← z]; exact ow⟩) fun z => no2 ⟨i, by rw [← z]; exact ow⟩⟩
  exact q v H4 S4 R4 ((s1.trans s2).trans t.ss) ok4
end
end PL

set_option Elab.async false
set_option linter.all false
set_option maxRecDepth 100000
set_option maxHeartbeats 1000000
/-! calls with keywords, of defs and of classes, with defaults -/
namespace PL
open PySem PySem.Spec PyProof.Rows L2
section
variable {X : Cx} {Γ Γ1 Γ2 : Gm} {e : Ex} {es : List Ex} {p pos kpos : Pos} {r : Rs} {ds zs as : List D} {d : D} {j k n : Nat} {ps ks : List Str} {x y : Str} {C : Addr} {kws : List Keyword} {σ : L2.St} {H : Hp}
def WK (X : Cx) (kws : List Keyword) : TA := fun σ H Q => ∀ pos pins s, Inv X pins σ H s → wpAny (model X.prog X.w) X.A (evalAll ((backToKw pos (keywordEach kws X.env)).map (·.2))) (AP X pins σ Q) X.xe s
theorem wk_pk : PK X kws (WK X kws) := ⟨fun pos pins s σ H Q I h => h pos pins s I⟩
theorem pk_wk {t : TA} {Q : List V → Hp → Prop} (h : PK X kws t) (q : t σ H Q) : WK X kws σ H Q := fun pos pins s I => h.run pos pins s σ H Q I q
/-- the keywords' values -/
def KX (X : Cx) (Γ : Gm) (kws : List Keyword) (zs : List D) (Γ' : Gm) : Prop := ∀ F σ H S (Q : List V → Hp → Prop), RS X.K F Γ σ H S → (∀ vs H' S', RS X.K F Γ' σ H' S' → Same S S' → Reps X.K S' zs vs → Q vs H') → WK X kws σ H Q
theorem k_nil : KX X Γ [] [] Γ := fun F σ H S Q R q => pk_wk pk_nil (q [] H S R (.refl _) rfl)
theorem k_cons (h : EX X Γ e (.sh d) Γ1) (h2 : KX X Γ1 kws zs Γ2) : KX X Γ (⟨some y, e, kpos⟩ :: kws) (d :: zs) Γ2 := fun F σ H S Q R q =>
  pk_wk (pk_cons we_pe wk_pk) (h F σ H S _ R fun v H1 S1 R1 s1 ok => h2 F σ H1 S1 _ R1 fun vs H2 S2 R2 s2 ok2 => q _ H2 S2 R2 (s1.trans s2) (.cons (Rep.mono s2 _ _ ok) ok2))
/-- a list by its places: 0 .. the positional ones, then the defaults, then the keywords' ones -/
def pickL {α : Type} (is : List Nat) (us its ws : List α) : List α := is.filterMap fun i => (us ++ (its ++ ws))[i]?
theorem paired_get {α β : Type} {R : α → β → Prop} : ∀ {xs : List α} {ys : List β} (i : Nat), Paired R xs ys → (xs[i]? = none ∧ ys[i]? = none) ∨ ∃ x y, xs[i]? = some x ∧ ys[i]? = some y ∧ R x y
  | _, _, i, .nil => .inl ⟨by simp, by simp⟩
  | _, _, 0, .cons h t => .inr ⟨_, _, rfl, rfl, h⟩
  | _, _, i + 1, .cons h t => by
    rcases paired_get i t with ⟨a, b⟩ | ⟨x, y, a, b, c⟩
    · exact .inl ⟨by simpa using a, by simpa using b⟩
    · exact .inr ⟨x, y, by simpa using a, by simpa using b, c⟩
theorem paired_app {α β : Type} {R : α → β → Prop} : ∀ {xs zs : List α} {ys ws : List β}, Paired R xs ys → Paired R zs ws → Paired R (xs ++ zs) (ys ++ ws)
  | _, _, _, _, .nil, h => h
  | _, _, _, _, .cons a t, h => .cons a (paired_app t h)
theorem paired_pick {α β : Type} {R : α → β → Prop} {us its ws : List α} {us' its' ws' : List β} (h1 : Paired R us us') (h2 : Paired R its its') (h3 : Paired R ws ws') : ∀ is : List Nat, Paired R (pickL is us its ws) (pickL is us' its' ws')
  | [] => .nil
  | i :: is => by
    unfold pickL
    rw [List.filterMap_cons, List.filterMap_cons]
    have h := paired_get i (paired_app h1 (paired_app h2 h3))
    rcases h with ⟨a, b⟩ | ⟨x, y, a, b, c⟩
    · rw [a, b]; exact paired_pick h1 h2 h3 is
    · rw [a, b]; exact .cons c (paired_pick h1 h2 h3 is)
theorem pick_shift {α : Type} {a : α} {vs ds zs : List α} {is : List Nat} (h0 : 0 ∉ is) : pickL (0 :: is) (a :: vs) ds zs = a :: pickL (is.map (· - 1)) vs ds zs := by
  unfold pickL
  rw [List.filterMap_cons]
  show a :: _ = _
  congr 1
  rw [List.filterMap_map]
  induction is with
  | nil => rfl
  | cons i is ih =>
    have h1 := fun z => h0 (List.mem_cons_of_mem i z)
    rw [List.filterMap_cons, List.filterMap_cons, ih h1]
    cases i with
    | zero => exact absurd (List.mem_cons_self ..) h0
    | succ i => rfl
/-- a def (of defaults dvs) called with n values and the keywords ks; is: the places -/
structure KwB (K : PySem.W.Frag) (fd : FuncData) (ps : List Str) (n : Nat) (ks : List Str) (dvs : List V) (is : List Nat) : Prop where
  ex : ∃ its : List Value, KBn K fd ps n ks (fun us ws => pickL is us its ws) (fun vs zs => pickL is vs dvs zs)
theorem kwb_d {K : PySem.W.Frag} {x qual : Str} {params : Arguments} {body : List Stmt} {scope : Scope} {dvs : List V} {f : Addr} {fd : FuncData} {ps : List Str} (F : FunD K x qual params body scope dvs [] f fd) (n : Nat) (ks : List Str) (is : List Nat) (hd : dvs ≠ [])
    (h : ∀ (T : Addr) (kV doc pm : Value) (an : Option Addr) (cdv ct : Value) (us its ws : List Value), us.length = n → its.length = dvs.length → ws.length = ks.length →
      ∃ k, bindArgs (PySem.W.fnOf x qual params body scope (.ref T) kV doc pm an cdv ct) ⟨us, ks.zip ws⟩ = seqItems? (.ref T) >>= k ∧ k (some its.toArray) = pure (ps.zip (pickL is us its ws))) : KwB K fd ps n ks dvs is :=
  ⟨F.kbindsD n ks (fun us its ws => pickL is us its ws) hd (fun a b c => paired_pick a b c is) h⟩
theorem kwb_0 {K : PySem.W.Frag} {x qual : Str} {params : Arguments} {body : List Stmt} {scope : Scope} {f : Addr} {fd : FuncData} {ps : List Str} (F : FunD K x qual params body scope [] [] f fd) (n : Nat) (ks : List Str) (is : List Nat)
    (h : ∀ (kV doc pm : Value) (an : Option Addr) (cdv ct : Value) (us ws : List Value), us.length = n → ws.length = ks.length → bindArgs (PySem.W.fnOf x qual params body scope .none kV doc pm an cdv ct) ⟨us, ks.zip ws⟩ = pure (ps.zip (pickL is us [] ws))) : KwB K fd ps n ks [] is := by
  obtain ⟨oc, od, dV, kV, doc, pm, an, cdv, ct, osl, rfl, lk, hcd, hD, hK⟩ := F.ex
  rcases hD with ⟨_, rfl⟩ | ⟨e, _⟩
  · exact ⟨[], ⟨fun s us ws X l1 l2 => .of_eq (h kV doc pm an cdv ct us ws l1 l2), fun r1 r2 => paired_pick r1 .nil r2 is⟩⟩
  · exact absurd rfl e
theorem Reps.pick {K : PySem.W.Frag} {S : Hp} {ds fs zs : List D} {vs us ws : List V} (h1 : Reps K S ds vs) (h2 : Reps K S fs us) (h3 : Reps K S zs ws) : ∀ is : List Nat, Reps K S (pickL is ds fs zs) (pickL is vs us ws)
  | [] => rfl
  | i :: is => by
    have ih := Reps.pick h1 h2 h3 is
    have h := h1.append (h2.append h3)
    unfold pickL
    rw [List.filterMap_cons, List.filterMap_cons]
    cases e : (ds ++ (fs ++ zs))[i]? with
    | none =>
      have e2 : (vs ++ (us ++ ws))[i]? = none := by
        rw [List.getElem?_eq_none_iff, ← h.length]
        exact List.getElem?_eq_none_iff.mp e
      rw [e2]; exact ih
    | some q =>
      obtain ⟨v, e2, rv⟩ := h.get e
      rw [e2]
      exact .cons rv ih
/-! ### defs -/
/-- f(e, .., k = v, ..) -/
theorem e_kw {P : List D → Rs → Prop} {f : Addr} {fd : FuncData} {dvs : List V} {fs : List D} {is : List Nat} (Fo : FnOk X.prog X.w X.K X.mg X.base (L2.CX X.prog X.w) j f fd ps (sp0 X.K P)) (at_ : At X x f) (B : KwB X.K fd ps ds.length ks dvs is) (g : Gd k X) (hfs : ∀ S, Reps X.K S fs dvs) (ha : AX X Γ (e :: es) ds Γ1) (hkw : KX X Γ1 kws zs Γ2) (hp : P (pickL is ds fs zs) r) (hz : zs.length = ks.length := by rfl)
    (hk : j ≤ k := by decide) (hg : Gl X x := by rfl) (hall : (backToKw pos (keywordEach kws X.env)).all (·.1.isSome) = true := by rfl) (hks : (backToKw pos (keywordEach kws X.env)).filterMap (·.1) = ks := by rfl)
    (hdb : (x == ("__debug__" : Str)) = false := by decide) (he : starEach (e :: es) X.env = (false, eval e X.env) :: starEach es X.env := by rfl)
    (hpl : ((backTo pos (starEach (e :: es) X.env)).any (·.1) || (backToKw pos (keywordEach kws X.env)).any (·.1.isNone)) = false := by rfl) : EX X Γ (.Call (.Name x p) (e :: es) kws pos) r Γ2 := fun F σ H S Q R q => by
  obtain ⟨its, hb⟩ := B.ex
  refine pe_we (pe_callN (E := E0) Fo (g.rm.mono hk) hg at_.mg at_.kp hb passL wa_pa wk_pk hall hks hdb he hpl) ?_
  refine ha F σ H S _ R fun vs H1 S1 R1 s1 ok => hkw F σ H1 S1 _ R1 fun us H2 S2 R2 s2 ok2 => ?_
  refine ⟨ok.length.symm, ok2.length.symm.trans hz, S2, _, r, hp, R2.sh, Reps.pick (Reps.mono s2 _ _ ok) (hfs S2) ok2 is, fun v H3 S3 t => ?_⟩
  obtain ⟨R3, ok3⟩ := R2.after0 t
  exact q v H3 S3 R3 ((s1.trans s2).trans t.ss) ok3
/-- f(k = v, ..) -/
theorem e_kw0 {P : List D → Rs → Prop} {f : Addr} {fd : FuncData} {dvs : List V} {fs : List D} {is : List Nat} (Fo : FnOk X.prog X.w X.K X.mg X.base (L2.CX X.prog X.w) j f fd ps (sp0 X.K P)) (at_ : At X x f) (B : KwB X.K fd ps 0 ks dvs is) (g : Gd k X) (hfs : ∀ S, Reps X.K S fs dvs) (hkw : KX X Γ kws zs Γ1) (hp : P (pickL is [] fs zs) r) (hz : zs.length = ks.length := by rfl)
    (hk : j ≤ k := by decide) (hg : Gl X x := by rfl) (hall : (backToKw pos (keywordEach kws X.env)).all (·.1.isSome) = true := by rfl) (hks : (backToKw pos (keywordEach kws X.env)).filterMap (·.1) = ks := by rfl)
    (hdb : (x == ("__debug__" : Str)) = false := by decide) (hpl : ((backTo pos (starEach [] X.env)).any (·.1) || (backToKw pos (keywordEach kws X.env)).any (·.1.isNone)) = false := by rfl) : EX X Γ (.Call (.Name x p) [] kws pos) r Γ1 := fun F σ H S Q R q => by
  obtain ⟨its, hb⟩ := B.ex
  have pe : PE X (.Call (.Name x p) [] kws pos) (fun σ H Q => WK X kws σ H fun zs H2 => zs.length = ks.length ∧ sp0 X.K P (pickL is [] dvs zs) H2 Q E0) := by
    refine ⟨fun pins s σ H Q I h => wpAny_Call_Name_kw (ld_glob I hg at_.mg ?_ hdb)⟩
    refine PySem.W.callWith_KW0 (h₀ := X.base) I.ok.mod.kin at_.kp hall (thn (wk_pk.run pos pins s σ H _ I h) fun ws s2 ⟨zs, H2, I2, rz, l2, q2⟩ => ⟨I2.kIn, ?_⟩) hpl
    rw [hks]
    exact run_fnN Fo (g.rm.mono hk) hb passL I2 .nil rz rfl l2 q2
  refine pe_we pe (hkw F σ H S _ R fun us H2 S2 R2 s2 ok2 => ⟨ok2.length.symm.trans hz, S2, _, r, hp, R2.sh, Reps.pick (ds := []) (vs := []) rfl (hfs S2) ok2 is, fun v H3 S3 t => ?_⟩)
  obtain ⟨R3, ok3⟩ := R2.after0 t
  exact q v H3 S3 R3 (s2.trans t.ss) ok3
/-! ### classes -/
theorem make_rd {P : Ob → List D → Rs → Ob → Prop} {o' : Ob} {F : Fr} {S H : Hp} {Q : VK} {as : List D} {ws : List V} {a dx : Addr} (R1 : RS X.K F Γ σ H S) (hp : P (.ins C [] []) as (.sh .non) o') (rp : Reps X.K S as ws) (na : H a = none) (nd : H dx = none) (ne : dx ≠ a)
    (q : ∀ v H' S', RS X.K F Γ σ H' S' → Same S S' → RsOk X.K F Γ σ H' S' (.ow o') v → Q v H') : sp1 X.K P (.ref a :: ws) (upd (upd H dx (.own a)) a (.ins C dx [])) (fun v H3 => v = .non ∧ Q (.ref a) H3) E0 := by
  have g1 : Same H (upd (upd H dx (.own a)) a (.ins C dx [])) := (same_upd nd).trans (same_upd (by rw [upd_ne ne.symm]; exact na))
  have R2 := R1.grow g1
  refine ⟨S, .ins C [] [], as, .sh .non, o', a, ws, hp, rfl, R2.sh, R1.sNone na, ⟨dx, [], upd_same, rfl, rfl⟩, rp, fun v H2 S2 t n2 ob2 => ⟨t.res, ?_⟩⟩
  have t' : Ret X.K S H (fun _ => False) (.ow o') (.ref a) H2 S2 := ⟨t.ss, t.sh, fun b o e n => t.new b o (g1 b o e) n, fun b o _ e => t.kp b o (fun z => by rw [z, na] at e; cases e) (g1 b o e), fun b o e => t.th b o (g1 b o e), a, rfl, na, n2, ob2⟩
  obtain ⟨R3, ok3⟩ := R1.after0 t'
  exact q (.ref a) H2 S2 R3 t.ss ok3
/-- C(e, .., k = v, ..); the places: 0 is the new object -/
theorem e_mkw {P : Ob → List D → Rs → Ob → Prop} {o' : Ob} {f : Addr} {fd : FuncData} {dvs : List V} {fs : List D} {is : List Nat} (M : Mk X.K C f) (Fo : FnOk X.prog X.w X.K X.mg X.base (L2.CX X.prog X.w) j f fd ps (sp1 X.K P)) (hm : X.mg x = some (.ref C)) (B : KwB X.K fd ps (ds.length + 1) ks dvs (0 :: is)) (h0 : 0 ∉ is) (g : Gd k X) (hfs : ∀ S, Reps X.K S fs dvs) (ha : AX X Γ (e :: es) ds Γ1) (hkw : KX X Γ1 kws zs Γ2) (hp : P (.ins C [] []) (pickL (is.map (· - 1)) ds fs zs) (.sh .non) o') (hz : zs.length = ks.length := by rfl)
    (hk : j + 1 ≤ k := by decide) (hg : Gl X x := by rfl) (hall : (backToKw pos (keywordEach kws X.env)).all (·.1.isSome) = true := by rfl) (hks : (backToKw pos (keywordEach kws X.env)).filterMap (·.1) = ks := by rfl)
    (hdb : (x == ("__debug__" : Str)) = false := by decide) (he : starEach (e :: es) X.env = (false, eval e X.env) :: starEach es X.env := by rfl)
    (hpl : ((backTo pos (starEach (e :: es) X.env)).any (·.1) || (backToKw pos (keywordEach kws X.env)).any (·.1.isNone)) = false := by rfl) : EX X Γ (.Call (.Name x p) (e :: es) kws pos) (.ow o') Γ2 := fun F σ H S Q R q => by
  obtain ⟨its, hb⟩ := B.ex
  refine pe_we (pe_makeN (E := E0) M Fo (g.rm.mono hk) hg hm hb passL wa_pa wk_pk hall hks hdb he hpl) ?_
  refine ha F σ H S _ R fun vs H1 S1 R1 s1 ok => hkw F σ H1 S1 _ R1 fun us H2 S2 R2 s2 ok2 => ⟨ok.length.symm, ok2.length.symm.trans hz, fun a dx na nd ne => ?_⟩
  show sp1 X.K P (pickL (0 :: is) (V.ref a :: vs) dvs us) _ _ _
  rw [pick_shift h0]
  exact make_rd R2 hp (Reps.pick (Reps.mono s2 _ _ ok) (hfs S2) ok2 _) na nd ne fun v H3 S3 R3 s3 ok3 => q v H3 S3 R3 ((s1.trans s2).trans s3) ok3
theorem e_mkw0 {P : Ob → List D → Rs → Ob → Prop} {o' : Ob} {f : Addr} {fd : FuncData} {dvs : List V} {fs : List D} {is : List Nat} (M : Mk X.K C f) (Fo : FnOk X.prog X.w X.K X.mg X.base (L2.CX X.prog X.w) j f fd ps (sp1 X.K P)) (hm : X.mg x = some (.ref C)) (B : KwB X.K fd ps 1 ks dvs (0 :: is)) (h0 : 0 ∉ is) (g : Gd k X) (hfs : ∀ S, Reps X.K S fs dvs) (hkw : KX X Γ kws zs Γ1) (hp : P (.ins C [] []) (pickL (is.map (· - 1)) [] fs zs) (.sh .non) o') (hz : zs.length = ks.length := by rfl)
    (hk : j + 1 ≤ k := by decide) (hg : Gl X x := by rfl) (hall : (backToKw pos (keywordEach kws X.env)).all (·.1.isSome) = true := by rfl) (hks : (backToKw pos (keywordEach kws X.env)).filterMap (·.1) = ks := by rfl)
    (hdb : (x == ("__debug__" : Str)) = false := by decide) (hpl : ((backTo pos (starEach [] X.env)).any (·.1) || (backToKw pos (keywordEach kws X.env)).any (·.1.isNone)) = false := by rfl) : EX X Γ (.Call (.Name x p) [] kws pos) (.ow o') Γ1 := fun F σ H S Q R q => by
  obtain ⟨its, hb⟩ := B.ex
  refine pe_we (pe_makeK0 (E := E0) M Fo (g.rm.mono hk) hg hm hb passL wk_pk hall hks hdb hpl) ?_
  refine hkw F σ H S _ R fun us H2 S2 R2 s2 ok2 => ⟨rfl, ok2.length.symm.trans hz, fun a dx na nd ne => ?_⟩
  show sp1 X.K P (pickL (0 :: is) (V.ref a :: []) dvs us) _ _ _
  rw [pick_shift h0]
  exact make_rd R2 hp (Reps.pick (ds := []) (vs := []) rfl (hfs S2) ok2 _) na nd ne fun v H3 S3 R3 s3 ok3 => q v H3 S3 R3 (s2.trans s3) ok3
end
end PL

set_option Elab.async false
set_option linter.all false
set_option maxRecDepth 100000
set_option maxHeartbeats 1000000
/-! defs with defaults: the def itself is kept, so that each call binds as it is written -/
namespace PL
open PySem PySem.Spec PyProof.Rows L2
structure Cd (Pg : Program) (w : World) (K : PySem.W.Frag) (mg : Str → Option Value) (base : Heap) (x : Str) (j : Nat) (ps : List Str) (st : Stmt) (dvs : List V) (P : List D → Rs → Prop) : Prop where
  ex : ∃ f fd, mg x = some (.ref f) ∧ FunD K x x (defArgs st) (defBody st) (defScope st) dvs [] f fd ∧ FnOk Pg w K mg base (L2.CX Pg w) j f fd ps (sp0 K P)
section
variable {Pg : Program} {w : World} {K : PySem.W.Frag} {mg : Str → Option Value} {base : Heap} {x : Str} {st : Stmt} {N ps : List Str} {k : Nat} {dvs : List V}
theorem cd_mk {P : List D → Rs → Prop} (Dd : Df K mg x st dvs) (Sc : FnScope N ps (defScope st)) (hn : ps.length ≤ N.length) (hl : ∀ ds r, P ds r → ds.length = ps.length ∧ ∀ j, r ≠ .br j)
    (hb : ∀ f cd A outer s H E, Gd k (cx Pg w K mg base N x (defScope st) f cd A outer s H E) → ∀ ds r, P ds r → ∃ Γ', Ends1 (cx Pg w K mg base N x (defScope st) f cd A outer s H E) (ent N ds) (defBody st) r Γ') : Cd Pg w K mg base x (k + 1) ps st dvs P := by
  obtain ⟨f, fd, FD, gm⟩ := Dd.ex
  exact ⟨f, fd, gm, FD, fn0 FD Sc (fun ds r p => (hl ds r p).1) hn (fun ds r p => (hl ds r p).2) (hb f)⟩
end
section
variable {X : Cx} {Γ Γ1 Γ2 : Gm} {e : Ex} {es : List Ex} {p pos : Pos} {r : Rs} {ds zs fs : List D} {j k : Nat} {ps ks : List Str} {x : Str} {st : Stmt} {dvs : List V} {kws : List Keyword} {P : List D → Rs → Prop}
/-- f(e, ..): the defaults from the i-th on fill up -/
theorem e_cd (i : Nat) (G : Cd X.prog X.w X.K X.mg X.base x j ps st dvs P) (hb : ∀ f fd, FunD X.K x x (defArgs st) (defBody st) (defScope st) dvs [] f fd → ∃ dv, Vals (dvs.drop i) dv ∧ Binds X.K fd ps dv) (g : Gd k X) (ha : AX X Γ (e :: es) ds Γ1) (hfs : ∀ S, Reps X.K S fs (dvs.drop i)) (hp : P (ds ++ fs) r)
    (hk : j ≤ k := by decide) (hg : Gl X x := by rfl) (hdb : (x == ("__debug__" : Str)) = false := by decide) (he : starEach (e :: es) X.env = (false, eval e X.env) :: starEach es X.env := by rfl) (hpl : (backTo pos (starEach es X.env)).any (·.1) = false := by rfl) : EX X Γ (.Call (.Name x p) (e :: es) [] pos) r Γ1 := by
  obtain ⟨f, fd, gm, FD, F⟩ := G.ex
  obtain ⟨dv, hv, b⟩ := hb f fd FD
  exact e_call0 (dds := fs) F ⟨gm, FD.kp⟩ g hp ha b hv hfs hk hg hdb he hpl
/-- f(e, .., k = v, ..) -/
theorem e_cdk (is : List Nat) (G : Cd X.prog X.w X.K X.mg X.base x j ps st dvs P) (hb : ∀ f fd, FunD X.K x x (defArgs st) (defBody st) (defScope st) dvs [] f fd → KwB X.K fd ps ds.length ks dvs is) (g : Gd k X) (hfs : ∀ S, Reps X.K S fs dvs) (ha : AX X Γ (e :: es) ds Γ1) (hkw : KX X Γ1 kws zs Γ2) (hp : P (pickL is ds fs zs) r) (hz : zs.length = ks.length := by rfl)
    (hk : j ≤ k := by decide) (hg : Gl X x := by rfl) (hall : (backToKw pos (keywordEach kws X.env)).all (·.1.isSome) = true := by rfl) (hks : (backToKw pos (keywordEach kws X.env)).filterMap (·.1) = ks := by rfl)
    (hdb : (x == ("__debug__" : Str)) = false := by decide) (he : starEach (e :: es) X.env = (false, eval e X.env) :: starEach es X.env := by rfl)
    (hpl : ((backTo pos (starEach (e :: es) X.env)).any (·.1) || (backToKw pos (keywordEach kws X.env)).any (·.1.isNone)) = false := by rfl) : EX X Γ (.Call (.Name x p) (e :: es) kws pos) r Γ2 := by
  obtain ⟨f, fd, gm, FD, F⟩ := G.ex
  exact e_kw F ⟨gm, FD.kp⟩ (hb f fd FD) g hfs ha hkw hp hz hk hg hall hks hdb he hpl
theorem e_cdk0 (is : List Nat) (G : Cd X.prog X.w X.K X.mg X.base x j ps st dvs P) (hb : ∀ f fd, FunD X.K x x (defArgs st) (defBody st) (defScope st) dvs [] f fd → KwB X.K fd ps 0 ks dvs is) (g : Gd k X) (hfs : ∀ S, Reps X.K S fs dvs) (hkw : KX X Γ kws zs Γ1) (hp : P (pickL is [] fs zs) r) (hz : zs.length = ks.length := by rfl)
    (hk : j ≤ k := by decide) (hg : Gl X x := by rfl) (hall : (backToKw pos (keywordEach kws X.env)).all (·.1.isSome) = true := by rfl) (hks : (backToKw pos (keywordEach kws X.env)).filterMap (·.1) = ks := by rfl)
    (hdb : (x == ("__debug__" : Str)) = false := by decide) (hpl : ((backTo pos (starEach [] X.env)).any (·.1) || (backToKw pos (keywordEach kws X.env)).any (·.1.isNone)) = false := by rfl) : EX X Γ (.Call (.Name x p) [] kws pos) r Γ1 := by
  obtain ⟨f, fd, gm, FD, F⟩ := G.ex
  exact e_kw0 F ⟨gm, FD.kp⟩ (hb f fd FD) g hfs hkw hp hz hk hg hall hks hdb hpl
end
end PL

set_option Elab.async false
set_option linter.all false
set_option maxRecDepth 100000
set_option maxHeartbeats 1000000
/-! PL, further: contracts by what comes out (Cp: a def that draws from a pool), items of owned lists, a list unpacked, isinstance of own classes. -/
namespace PL
open PySem PySem.Spec PyProof.Rows L2
theorem Cd.c0 {Pg : Program} {w : World} {K : PySem.W.Frag} {mg : Str → Option Value} {base : Heap} {x : Str} {st : Stmt} {ps : List Str} {j : Nat} {P : List D → Rs → Prop} (G : Cd Pg w K mg base x j ps st [] P) (bd : BindsN x st ps) : C0 Pg w K mg base x j ps P := by
  obtain ⟨f, fd, gm, FD, Fo⟩ := G.ex
  exact ⟨f, fd, gm, FD.kp, FD.bindsN bd, Fo⟩
/-- a pool -/
abbrev po (n : Int) : Ob := .lst [.int n]
structure Cp (Pg : Program) (w : World) (K : PySem.W.Frag) (mg : Str → Option Value) (base : Heap) (x : Str) (j : Nat) (ps : List Str) (Pre : List D → Prop) (Post : List D → Rs → Prop) : Prop where
  ex : ∃ P, C1 Pg w K mg base x j ps P ∧ ∀ n ds, Pre ds → ∃ r n', Post ds r ∧ P (po n) ds r (po n')
theorem cp_mk {Pg : Program} {w : World} {K : PySem.W.Frag} {mg : Str → Option Value} {base : Heap} {x : Str} {st : Stmt} {N ps : List Str} {k : Nat} {Pre : List D → Prop} {Post : List D → Rs → Prop} (Dd : Df K mg x st []) (Sc : FnScope N ps (defScope st)) (bd : BindsN x st ps) (hn : ps.length ≤ N.length) (hl : ∀ ds, Pre ds → ds.length + 1 = ps.length)
    (hb : ∀ n ds, Pre ds → ∃ r n', Post ds r ∧ (∀ j, r ≠ .br j) ∧ ∀ f cd A outer s H E, Gd k (cx Pg w K mg base N x (defScope st) f cd A outer s H E) → ∀ p, ∃ Γ', Ends1 (cx Pg w K mg base N x (defScope st) f cd A outer s H E) (.pr p (po n) :: ent N.tail ds) (defBody st) r Γ' ∧ Γ'[0]? = some (.pr p (po n'))) : Cp Pg w K mg base x (k + 1) ps Pre Post := by
  refine ⟨fun o ds r o' => ds.length + 1 = ps.length ∧ (∀ j, r ≠ .br j) ∧ ∀ f cd A outer s H E, Gd k (cx Pg w K mg base N x (defScope st) f cd A outer s H E) → ∀ p, ∃ Γ', Ends1 (cx Pg w K mg base N x (defScope st) f cd A outer s H E) (.pr p o :: ent N.tail ds) (defBody st) r Γ' ∧ Γ'[0]? = some (.pr p o'), ?_, fun n ds pre => ?_⟩
  · exact c1_mk Dd Sc bd hn (fun o ds r o' h => ⟨h.1, h.2.1⟩) fun f cd A outer s H E g o ds r o' h p => h.2.2 f cd A outer s H E g p
  · obtain ⟨r, n', h1, h2, h3⟩ := hb n ds pre
    exact ⟨r, n', h1, hl ds pre, h2, h3⟩
/-- the same of two pools -/
structure Cq (Pg : Program) (w : World) (K : PySem.W.Frag) (mg : Str → Option Value) (base : Heap) (x : Str) (j : Nat) (ps : List Str) (Pre : List D → Prop) (Post : List D → Rs → Prop) : Prop where
  ex : ∃ P, C2 Pg w K mg base x j ps P ∧ ∀ n m ds, Pre ds → ∃ r n' m', Post ds r ∧ P (po n) (po m) ds r (po n') (po m')
theorem cq_mk {Pg : Program} {w : World} {K : PySem.W.Frag} {mg : Str → Option Value} {base : Heap} {x : Str} {st : Stmt} {N ps : List Str} {k : Nat} {Pre : List D → Prop} {Post : List D → Rs → Prop} (Dd : Df K mg x st []) (Sc : FnScope N ps (defScope st)) (bd : BindsN x st ps) (hn : ps.length ≤ N.length) (hl : ∀ ds, Pre ds → ds.length + 2 = ps.length)
    (hb : ∀ n m ds, Pre ds → ∃ r n' m', Post ds r ∧ (∀ j, r ≠ .br j) ∧ ∀ f cd A outer s H E, Gd k (cx Pg w K mg base N x (defScope st) f cd A outer s H E) → ∀ p q, ∃ Γ', Ends1 (cx Pg w K mg base N x (defScope st) f cd A outer s H E) (.pr p (po n) :: .pr q (po m) :: ent N.tail.tail ds) (defBody st) r Γ' ∧ Γ'[0]? = some (.pr p (po n')) ∧ Γ'[1]? = some (.pr q (po m'))) : Cq Pg w K mg base x (k + 1) ps Pre Post := by
  refine ⟨fun o u ds r o' u' => ds.length + 2 = ps.length ∧ (∀ j, r ≠ .br j) ∧ ∀ f cd A outer s H E, Gd k (cx Pg w K mg base N x (defScope st) f cd A outer s H E) → ∀ p q, ∃ Γ', Ends1 (cx Pg w K mg base N x (defScope st) f cd A outer s H E) (.pr p o :: .pr q u :: ent N.tail.tail ds) (defBody st) r Γ' ∧ Γ'[0]? = some (.pr p o') ∧ Γ'[1]? = some (.pr q u'), ?_, fun n m ds pre => ?_⟩
  · exact c2_mk Dd Sc bd hn (fun o u ds r o' u' h => ⟨h.1, h.2.1⟩) fun f cd A outer s H E g o u ds r o' u' h p q => h.2.2 f cd A outer s H E g p q
  · obtain ⟨r, n', m', h1, h2, h3⟩ := hb n m ds pre
    exact ⟨r, n', m', h1, hl ds pre, h2, h3⟩
/-- turns, one behind another, each with what the one before left -/
theorem seq_ex {α : Type} (I : α → Prop) (T : Nat → α → α → Prop) (a : α) (h0 : I a) (hs : ∀ i a, I a → ∃ b, T i a b ∧ I b) : ∃ s : Nat → α, s 0 = a ∧ ∀ i, I (s i) ∧ T i (s i) (s (i + 1)) := by
  have h : ∀ i (x : {a // I a}), ∃ y : {a // I a}, T i x.1 y.1 := fun i x => let ⟨b, h1, h2⟩ := hs i x.1 x.2; ⟨⟨b, h2⟩, h1⟩
  let f : Nat → {a // I a} := Nat.rec ⟨a, h0⟩ fun i x => Classical.choose (h i x)
  exact ⟨fun i => (f i).1, rfl, fun i => ⟨(f i).2, Classical.choose_spec (h i (f i))⟩⟩
section
variable {X : Cx} {Γ Γ1 Γ2 : Gm} {a b : Ex} {pos : Pos} {d : D} {ds : List D} {i : Int} {n : Nat} {s : Sl}
/-- xs[i], xs a list of one's own -/
theorem e_ixO (h1 : EX X Γ a (.br n) Γ1) (h2 : EX X Γ1 b (.sh (.int i)) Γ2) (hs : Has Γ2 n s (.lst ds)) (ha : atI ds i = some d) (hp : PlainIx b := by exact fun _ _ => rfl) : EX X Γ (.Subscript a b pos) (.sh d) Γ2 := fun F σ H S Q R q => by
  refine pe_we (pe_ix ix_list we_pe we_pe hp) (h1 F σ H S _ R fun x H1 S1 R1 s1 r1 => h2 F σ H1 S1 _ R1 fun y H2 S2 R2 s2 r2 => ?_)
  obtain ⟨p, rfl, own1⟩ := r1
  obtain ⟨p', own2, vs, hl, rp⟩ := R2.has hs
  obtain rfl := own1.eq own2
  obtain ⟨v, e1, e2⟩ := rp.atI ha
  exact ⟨p, vs, i, v, rfl, r2, .of hl, e1, q v H2 S2 R2 (s1.trans s2) e2⟩
/-- a, b, .. = a list -/
theorem g_lst {tgs : List Ex} {kk : Nat} (hc : X.calm = true) (h : GsX X tgs Γ ds Γ1) (hn : (assignEach tgs X.env).length = ds.length := by rfl) (hst : (assignEach tgs X.env).findIdx? (·.1) = none := by rfl) : GX X (.Tuple tgs kk pos) Γ (.lst ds) Γ1 := fun F σ H S v Q R ok k => by
  obtain ⟨p, vs, rfl, h1, h2⟩ := ok
  exact pg_wg (pg_unl hc wgs_pgs hn hst) ⟨p, vs, rfl, .of (R.sh _ _ h1), h2.length.symm, h F σ H S vs Q R h2 k⟩
/-- isinstance of own classes -/
structure Ic (K : PySem.W.Frag) (C : Addr) : Prop where
  ins : C8.InsC K C
  no : ∀ t ∈ ["NoneType", "bool", "int", "str", "tuple", "list", "dict"], PySem.W.kitOne K (.type t) (.ref C) = some false
theorem c_isC {C : Addr} {ns : List Str} {fs : List D} (c : Ic X.K C) : CallS X (.builtin "isinstance") [.obj C ns fs, .raw (.ref C)] (.sh (.bl true)) := calls_sc (C8.call_isC c.ins) (.bl true) (fun _ => rfl) fun H S vs Q s r q => by
  obtain ⟨v, w, rfl, r1, r2⟩ := reps2 r
  obtain ⟨p, dx, us, rfl, h1, _, _⟩ := r1
  obtain rfl : w = V.ref C := r2
  exact ⟨p, dx, _, rfl, s _ _ h1, q⟩
theorem c_isNo {C : Addr} (c : Ic X.K C) (hp : d.plain = true) : CallS X (.builtin "isinstance") [d, .raw (.ref C)] (.sh (.bl false)) := calls_sc call_isi (.bl false) (fun _ => rfl) fun H S vs Q s r q => by
  obtain ⟨v, w, rfl, r1, r2⟩ := reps2 r
  obtain rfl : w = V.ref C := r2
  exact ⟨v, _, _, _, false, rfl, .own C, tyx_of hp s r1, c.no _ (ty_mem hp), q⟩
theorem c_isOth {C C' : Addr} {ns : List Str} {fs : List D} (c : Ic X.K C) (hk : PySem.W.kitOne X.K (.ref C) (.ref C') = some false) : CallS X (.builtin "isinstance") [.obj C ns fs, .raw (.ref C')] (.sh (.bl false)) := calls_sc call_isi (.bl false) (fun _ => rfl) fun H S vs Q s r q => by
  obtain ⟨v, w, rfl, r1, r2⟩ := reps2 r
  obtain ⟨p, dx, us, rfl, h1, _, _⟩ := r1
  obtain rfl : w = V.ref C' := r2
  exact ⟨_, _, _, _, false, rfl, .own C', .base (.ins (s _ _ h1) c.ins.cl c.ins.ha c.ins.hn c.ins.htk c.ins.hm), hk, q⟩
end
end PL

set_option Elab.async false
set_option linter.all false
set_option maxRecDepth 100000
set_option maxHeartbeats 1000000
namespace PL
open PySem PySem.Spec PyProof.Rows L2
section
variable {X : Cx} {Γ Γ1 Γ2 : Gm} {a b : Ex} {pos : Pos} {k' : Nat}
/-- two new objects at once -/
theorem e_two {Q : VK} {e e' : Ex} {o u : Ob} {F : Fr} {σ : L2.St} {H S : Hp} (R : RS X.K F Γ σ H S) (h : EX X Γ e (.ow o) Γ1) (h' : EX X Γ1 e' (.ow u) Γ2) {Q2 : V → V → Hp → Prop}
    (q : ∀ v v2 H2 S2, RS X.K F Γ2 σ H2 S2 → Same S S2 → RsOk X.K F Γ2 σ H2 S2 (.ow o) v → RsOk X.K F Γ2 σ H2 S2 (.ow u) v2 → v ≠ v2 → Q2 v v2 H2) : WE X e σ H fun v H1 => WE X e' σ H1 fun v2 H2 => Q2 v v2 H2 := by
  refine h F σ H S _ R fun v H1 S1 R1 s1 ok => ?_
  obtain ⟨a, rfl, n1, n2, obr, no⟩ := ok
  have Rb := R1.rebase
  obtain ⟨y, hy⟩ := obr.there
  refine h' _ σ H1 S1 _ Rb fun v2 H2 S2 R2 s2 ok2 => ?_
  obtain ⟨a2, rfl, m1, m2, obr2, no2⟩ := ok2
  have ka : H2 a = some y := R2.kp a y no hy
  have na : S2 a = none := R2.new a y hy no n1
  have R3 := R1.back R2
  have nea : a ≠ a2 := fun z => by
    have m2' : H1 a2 = none := m2
    rw [← z, hy] at m2'; cases m2'
  have noa : ¬ Own Γ2 σ a := fun ⟨i, ow⟩ => by
    rcases (R2.own ow).2.1 with z | z
    · have z' : H1 a = none := z
      rw [hy] at z'; cases z'
    · exact no z
  have ob1 : ObR X.K S2 H2 a o := obr.mono s2 fun z hz => by rw [hy] at hz; cases hz; exact ka
  have h0a2 : F.H0 a2 = none := R1.h0None m2
  exact q _ _ H2 S2 R3 (s1.trans s2) ⟨a, rfl, na, n2, ob1, noa⟩ ⟨a2, rfl, m1, h0a2, obr2, no2⟩ (fun z => nea (by cases z; rfl))
/-- a, b = x, y: two local names, two new objects -/
theorem s1_par2 (i j : Nat) {x y : Str} {px py pt : Pos} {kt k2 pt2} {o u : Ob} (g : Gd k' X) (h : EX X Γ a (.ow o) Γ1) (h' : EX X Γ1 b (.ow u) Γ2) (hl : i < Γ2.length := by exact Nat.le_of_ble_eq_true rfl) (hl2 : j < Γ2.length := by exact Nat.le_of_ble_eq_true rfl) (hij : i ≠ j := by decide) (hi : X.N[i]? = some x := by rfl) (hj : X.N[j]? = some y := by rfl)
    (hx : X.env.scope.names.lookup x = some .local := by rfl) (hy : X.env.scope.names.lookup y = some .local := by rfl)
    (hw : swappedStores [.Tuple [.Name x px, .Name y py] kt pt] (.Tuple [a, b] k2 pt2) X.env = pure (some [x, y]) := by rfl) (hs : swapsWithSole [.Tuple [.Name x px, .Name y py] kt pt] (.Tuple [a, b] k2 pt2) pos.line X.env = pure false := by rfl)
    (he : starEach [a, b] X.env = (false, eval a X.env) :: starEach [b] X.env := by rfl) (he2 : starEach [b] X.env = (false, eval b X.env) :: starEach [] X.env := by rfl) :
    S1 X Γ (.Assign [.Tuple [.Name x px, .Name y py] kt pt] (.Tuple [a, b] k2 pt2) pos) (.nx ((Γ2.set i (.ow o)).set j (.ow u))) := fun F σ H S D R q => by
  refine ps_w1 (ps_par g.calm g.nd hi hj hij hx hy (pa_cons we_pe (pa_cons we_pe pa_nil he2) he) hw hs) (e_two (Q := fun _ _ => True) R h h' fun v v2 H2 S2 R2 s2 ok1 ok2 ne => ?_)
  have R3 := R2.put (i := i) hl ok1 (fun _ z => by cases z)
  refine ⟨v, v2, rfl, q _ H2 S2 (R3.put (r := .ow u) (i := j) (by rw [List.length_set]; exact hl2) ?_ (fun _ z => by cases z)) s2⟩
  obtain ⟨a1, rfl, _⟩ := ok1
  obtain ⟨a2, rfl, m1, m2, ob2, no2⟩ := ok2
  refine ⟨a2, rfl, m1, m2, ob2, fun ⟨l, ow⟩ => ?_⟩
  by_cases hli : l = i
  · subst hli
    have hlσ : l < σ.length := by rw [← R2.len]; exact hl
    have q2 := ow.2
    rw [List.getElem?_set_self hlσ] at q2
    exact ne (by cases q2; rfl)
  · refine no2 ⟨l, ?_⟩
    obtain ⟨p1, p2⟩ := ow
    rw [List.getElem?_set_ne (Ne.symm hli)] at p2
    simp only [Rs.sl, List.getElem?_set_ne (Ne.symm hli)] at p1
    exact ⟨p1, p2⟩
end
section
variable {X : Cx}
theorem tups_flat : ∀ tss : List (List Str), D.flats (tss.map dT) = true
  | [] => rfl
  | ts :: tss => by
    show (D.flats (ts.map .str) && D.flats (tss.map dT)) = true
    rw [strs_flat, tups_flat tss]; rfl
theorem tups_py : ∀ tss : List (List Str), D.pys (tss.map dT) = tss.map fun ts => .tuple (ts.map .str)
  | [] => rfl
  | ts :: tss => by
    show PyData.tuple (D.pys (ts.map .str)) :: D.pys (tss.map dT) = _
    rw [strs_py, tups_py tss]; rfl
theorem lay_tups : ∀ tss : List (List Str), (∀ ts ∈ tss, ∀ x ∈ ts, okS x) → PyData.canLayAll0 (tss.map fun ts => .tuple (ts.map .str)) = true ∧ PyData.depthAll (tss.map fun ts => .tuple (ts.map .str)) ≤ 1
  | [], _ => ⟨rfl, Nat.zero_le _⟩
  | ts :: tss, h => by
    obtain ⟨h1, h2⟩ := lay_tups tss fun y hy => h y (List.mem_cons_of_mem _ hy)
    obtain ⟨g1, g2⟩ := lay_strs ts (h ts (List.mem_cons_self ..))
    refine ⟨?_, ?_⟩
    · show (PyData.canLayAll0 (ts.map .str) && PyData.canLayAll0 (tss.map fun ts => .tuple (ts.map .str))) = true
      rw [g1, h1]; rfl
    · show max (PyData.depthAll (ts.map .str) + 1) (PyData.depthAll (tss.map fun ts => .tuple (ts.map .str))) ≤ 1
      rw [g2]; omega
theorem cmp_dTs {tss : List (List Str)} (h : ∀ ts ∈ tss, ∀ x ∈ ts, okS x) : Cmp (.lst (tss.map dT)) := by
  refine ⟨tups_flat tss, ?_⟩
  show SeqAt.shaped (.list (D.pys (tss.map dT))) = true
  rw [tups_py]
  obtain ⟨h1, h2⟩ := lay_tups tss h
  exact shaped_of h1 (by show PyData.depthAll _ + 1 ≤ 64; omega)
theorem o_neSelf {d : D} (hu : X.A.units + 64 < cLine) (h : Cmp d) : OpS X (compareOp .NotEq) d d (.sh (.bl false)) := by
  have h1 := o_neD hu h h
  have e : PyData.eqv d.py d.py = true := by
    have h2 := h.2
    unfold SeqAt.shaped at h2
    exact SeqAt.eqv_refl _ (Bool.and_eq_true_iff.mp h2).1
  rw [e] at h1
  exact h1
end
end PL
namespace PL
open PySem
/-- the body of the for that stands first -/
def fBody : List Stmt → List Stmt
  | (.For _ _ b _ _) :: _ => b
  | _ => []
end PL

set_option Elab.async false
set_option linter.all false
set_option maxRecDepth 100000
set_option maxHeartbeats 1000000
/-! contracts by what comes out: a pool of any shape (Cr), no pool (Ce) -/
namespace PL
open PySem PySem.Spec PyProof.Rows L2
structure Cr (IsP : Ob → Prop) (Pg : Program) (w : World) (K : PySem.W.Frag) (mg : Str → Option Value) (base : Heap) (x : Str) (j : Nat) (ps : List Str) (Pre : List D → Prop) (Post : List D → Rs → Prop) : Prop where
  ex : ∃ P, C1 Pg w K mg base x j ps P ∧ ∀ o ds, IsP o → Pre ds → ∃ r o', IsP o' ∧ Post ds r ∧ P o ds r o'
section
variable {Pg : Program} {w : World} {K : PySem.W.Frag} {mg : Str → Option Value} {base : Heap} {x : Str} {st : Stmt} {N ps : List Str} {k : Nat} {Pre : List D → Prop} {Post : List D → Rs → Prop} {IsP : Ob → Prop}
theorem cr_mk (Dd : Df K mg x st []) (Sc : FnScope N ps (defScope st)) (bd : BindsN x st ps) (hn : ps.length ≤ N.length) (hl : ∀ ds, Pre ds → ds.length + 1 = ps.length)
    (hb : ∀ o ds, IsP o → Pre ds → ∃ r o', IsP o' ∧ Post ds r ∧ (∀ j, r ≠ .br j) ∧ ∀ f cd A outer s H E, Gd k (cx Pg w K mg base N x (defScope st) f cd A outer s H E) → ∀ p, ∃ Γ', Ends1 (cx Pg w K mg base N x (defScope st) f cd A outer s H E) (.pr p o :: ent N.tail ds) (defBody st) r Γ' ∧ Γ'[0]? = some (.pr p o')) : Cr IsP Pg w K mg base x (k + 1) ps Pre Post := by
  refine ⟨fun o ds r o' => ds.length + 1 = ps.length ∧ (∀ j, r ≠ .br j) ∧ ∀ f cd A outer s H E, Gd k (cx Pg w K mg base N x (defScope st) f cd A outer s H E) → ∀ p, ∃ Γ', Ends1 (cx Pg w K mg base N x (defScope st) f cd A outer s H E) (.pr p o :: ent N.tail ds) (defBody st) r Γ' ∧ Γ'[0]? = some (.pr p o'), ?_, fun o ds ip pre => ?_⟩
  · exact c1_mk Dd Sc bd hn (fun o ds r o' h => ⟨h.1, h.2.1⟩) fun f cd A outer s H E g o ds r o' h p => h.2.2 f cd A outer s H E g p
  · obtain ⟨r, o', h0, h1, h2, h3⟩ := hb o ds ip pre
    exact ⟨r, o', h0, h1, hl ds pre, h2, h3⟩
end
section
variable {X : Cx} {Γ Γ1 Γ2 : Gm} {e : Ex} {es : List Ex} {p pos : Pos} {r : Rs} {ds : List D} {j k : Nat} {ps : List Str} {x : Str}
/-- f(e, ..), e a new object -/
theorem e_c1nA {P : Ob → List D → Rs → Ob → Prop} {ob o' : Ob} (G : C1 X.prog X.w X.K X.mg X.base x j ps P) (g : Gd k X) (h : EX X Γ e (.ow ob) Γ1) (ha : AX X Γ1 es ds Γ2) (hp : P ob ds r o') (hk : j ≤ k := by decide) (hg : Gl X x := by rfl)
    (hdb : (x == ("__debug__" : Str)) = false := by decide) (he : starEach (e :: es) X.env = (false, eval e X.env) :: starEach es X.env := by rfl) (hpl : (backTo pos (starEach es X.env)).any (·.1) = false := by rfl) : EX X Γ (.Call (.Name x p) (e :: es) [] pos) r Γ2 := fun F σ H S Q R q => by
  obtain ⟨f, fd, gm, kp, b, Fo⟩ := G.ex
  refine pe_we (pe_call Fo (g.rm.mono hk) hg gm kp b .nil passL (pa_cons we_pe wa_pa he) hdb he hpl) (h F σ H S _ R fun v H1 S1 R1 s1 ok => ?_)
  obtain ⟨a, rfl, n1, n2, obr, no⟩ := ok
  have Rb := R1.rebase
  obtain ⟨y, hy⟩ := obr.there
  refine ha _ σ H1 S1 _ Rb fun vs H2 S2 R2 s2 ok2 => ?_
  have ka : H2 a = some y := R2.kp a y no hy
  have na : S2 a = none := R2.new a y hy no n1
  have R3 := R1.back R2
  have noa : ¬ Own Γ2 σ a := fun ⟨i, ow⟩ => by
    rcases (R2.own ow).2.1 with z | z
    · have z' : H1 a = none := z
      rw [hy] at z'; cases z'
    · exact no z
  have ob1 : ObR X.K S2 H2 a ob := obr.mono s2 fun z hz => by rw [hy] at hz; cases hz; exact ka
  refine ⟨S2, ob, ds, r, o', a, vs, hp, by rw [List.append_nil], R3.sh, na, ob1, ok2, fun v H4 S4 t n3 ob3 => ?_⟩
  obtain ⟨R4, ok4⟩ := R3.after t (fun b z => .inr (by rw [z]; exact n2)) rfl fun i s es => .inl ⟨es, fun b ow z => noa ⟨i, by rw [← z]; exact ow⟩⟩
  exact q v H4 S4 R4 ((s1.trans s2).trans t.ss) ok4
theorem o_eqB {a b : Bool} : OpS X (compareOp .Eq) (.bl a) (.bl b) (.sh (.bl (decide (a = b)))) := ops_sc op_eq (.bl _) (fun _ => rfl) fun H S x y Q _ r1 r2 q => by
  obtain rfl : x = V.bl a := r1
  obtain rfl : y = V.bl b := r2
  refine ⟨rfl, ?_⟩
  rw [show decide (V.bl a = V.bl b) = decide (a = b) by cases a <;> cases b <;> rfl]
  exact q
theorem o_neB {a b : Bool} : OpS X (compareOp .NotEq) (.bl a) (.bl b) (.sh (.bl (!decide (a = b)))) := ops_sc op_ne (.bl _) (fun _ => rfl) fun H S x y Q _ r1 r2 q => by
  obtain rfl : x = V.bl a := r1
  obtain rfl : y = V.bl b := r2
  refine ⟨rfl, ?_⟩
  rw [show decide (V.bl a = V.bl b) = decide (a = b) by cases a <;> cases b <;> rfl]
  exact q
/-- xs[e] = .., xs a list of one's own, e may change what is owned -/
theorem g_setixM {n : Nat} {s s0 : Sl} {o0 : Ob} {x : Str} {p : Pos} {ix : Int} {i : Nat} {d : D} (h0 : Has Γ n s0 o0) (hi : EX X Γ e (.sh (.int ix)) Γ1) (h1 : Has Γ1 n s (.lst ds)) (hj : ixN ds.length ix = some i) (hN : X.N[n]? = some x := by rfl) (hv : Vis X.env.scope x := by first | exact Or.inl rfl | exact Or.inr (Or.inl rfl) | exact Or.inr (Or.inr rfl)) (hd : (x == ("__debug__" : Str)) = false := by decide)
    (hcd : (x == ("__classdict__" : Str)) = false := by decide)
    (ha : ∀ v, assign (.Subscript (.Name x p) e pos) X.env v = (do
      let ov ← holding [v] (eval (.Name x p) X.env)
      let iv ← holding [v, ov] (eval e X.env)
      standAt pos
      holding [v, ov, iv] (setItem ov iv v)
      release [v, ov, iv] []) := by intro _; rfl) : GX X (.Subscript (.Name x p) e pos) Γ d (Γ1.set n (s.re (.lst (ds.set i d)))) := by
  intro F σ H S v Q R ok q
  obtain ⟨l, own, _⟩ := R.has h0
  refine pg_wg (pg_sub (pe_var hN hv hd hcd) we_pe set_list ha) ⟨_, own.2, hi F σ H S _ R fun y H1 S1 R1 s1 ok1 => ?_⟩
  obtain ⟨l', own1, vs1, hl1, rp1⟩ := R1.has h1
  obtain rfl := own.eq own1
  refine ⟨l, vs1, ix, i, rfl, ok1, hl1, by rw [← rp1.length]; exact hj, q σ _ S1 (R1.chg own1 h1.1 ⟨_, upd_same, rp1.set (Rep.mono s1 _ _ ok)⟩) s1⟩
theorem s1_setLcO {tg iter elt : Ex} {ifs : List Ex} {scope : Scope} {own : List (Str × Nat)} {n : Nat} {t : Nat → Bool} {f : Nat → D} {Γ' : Gm} (i : Nat) {y : Str} {py spos : Pos} {L : List D} (gd : Gd k X) (h : LcX X Γ tg iter ifs elt scope own n t f Γ') (eL : took t f n = L) (hl : i < Γ'.length := by exact Nat.le_of_ble_eq_true rfl) (hy : X.N[i]? = some y := by rfl) (hyl : X.env.scope.names.lookup y = some .local := by rfl)
    (hsw : swapsWith (.ListComp elt [⟨tg, iter, ifs, 0⟩] scope pos) (some (.Name y py)) spos.line X.env = pure true := by exact sw_true rfl rfl rfl (by decide +kernel)) (hs : ∀ x, foldedSetIterable iter X.env x = pure x := by intro _; rfl) : S1 X Γ (.Assign [.Name y py] (.ListComp elt [⟨tg, iter, ifs, 0⟩] scope pos) spos) (.nx (Γ'.set i (.ow (.lst L)))) := by
  subst eL
  exact s1_setLc (py := py) (spos := spos) (pos := pos) i gd h hl hy hyl hsw hs
end
end PL

set_option Elab.async false
set_option linter.all false
set_option maxRecDepth 100000
set_option maxHeartbeats 1000000
/-! written displays that hold no names -/
namespace PL
open PySem PySem.Spec PyProof.Rows L2
mutual
def valD : Ex → Option D
  | .Constant (.str x) _ _ => some (.str x)
  | .Constant (.int i) _ _ => some (.int i)
  | .Constant (.bool b) _ _ => some (.bl b)
  | .Constant .none _ _ => some .non
  | .Tuple es _ _ => (valsD es).map .tup
  | .List es _ => (valsD es).map .lst
  | .Dict [] [] _ => some (.dct [] [])
  | _ => none
def valsD : List Ex → Option (List D)
  | [] => some []
  | e :: es => match valD e, valsD es with
    | some d, some ds => some (d :: ds)
    | _, _ => none
end
section
variable {X : Cx} {Γ : Gm} {k : Nat}
theorem e_dict0 {pos : Pos} : EX X Γ (.Dict [] [] pos) (.ow (.dct [] [])) Γ := fun F σ H S Q R q =>
  pe_we pe_dnewK fun p np => q (.ref p) _ S (R.grow (same_upd np)) (.refl _) ⟨p, rfl, R.sNone np, R.h0None np, ⟨[], upd_same, rfl, rfl⟩, R.ownNone np⟩
theorem star_val {e : Ex} {d : D} (h : valD e = some d) (es : List Ex) : starEach (e :: es) X.env = (false, eval e X.env) :: starEach es X.env := by
  unfold valD at h
  split at h <;> first | rfl | cases h
theorem lst_small {α : Type} {n : Nat} (h : n ≤ 1000) : n ≤ sizeLine := Nat.le_trans h (by decide)
def sml : List D → Bool
  | ds => decide (ds.length ≤ 1000)
mutual
def smlD : D → Bool
  | .tup ds => decide (ds.length ≤ 1000) && smlsD ds
  | .lst ds => decide (ds.length ≤ 1000) && smlsD ds
  | _ => true
def smlsD : List D → Bool
  | [] => true
  | d :: ds => smlD d && smlsD ds
end
mutual
theorem e_val : ∀ {e : Ex} {d : D}, valD e = some d → smlD d = true → EX X Γ e (.sh d) Γ
  | .Constant (.str x) _ _, _, h, _ => by cases h; exact e_str
  | .Constant (.int i) _ _, _, h, _ => by cases h; exact e_int
  | .Constant (.bool b) _ _, _, h, _ => by cases h; exact e_bl
  | .Constant .none _ _, _, h, _ => by cases h; exact e_non
  | .Tuple es _ _, _, h, s => by
    have h' : (valsD es).map D.tup = some _ := h
    obtain ⟨ds, e1, rfl⟩ := Option.map_eq_some_iff.mp h'
    obtain ⟨s1, s2⟩ := Bool.and_eq_true_iff.mp (show (decide (ds.length ≤ 1000) && smlsD ds) = true from s)
    exact e_tup (a_val e1 s2) (lst_small (α := D) (of_decide_eq_true s1))
  | .List es _, _, h, s => by
    have h' : (valsD es).map D.lst = some _ := h
    obtain ⟨ds, e1, rfl⟩ := Option.map_eq_some_iff.mp h'
    obtain ⟨s1, s2⟩ := Bool.and_eq_true_iff.mp (show (decide (ds.length ≤ 1000) && smlsD ds) = true from s)
    exact e_fz (e_lst (a_val e1 s2) (lst_small (α := D) (of_decide_eq_true s1)))
  | .Dict [] [] _, _, h, _ => by cases h; exact e_frz e_dict0
theorem a_val : ∀ {es : List Ex} {ds : List D}, valsD es = some ds → smlsD ds = true → AX X Γ es ds Γ
  | [], _, h, _ => by cases h; exact a_nil
  | e :: es, _, h, s => by
    have h' : (match valD e, valsD es with | some d, some ds => some (d :: ds) | _, _ => none) = some _ := h
    cases h1 : valD e with
    | none => rw [h1] at h'; cases h'
    | some d =>
      cases h2 : valsD es with
      | none => rw [h1, h2] at h'; cases h'
      | some ds =>
        rw [h1, h2] at h'
        cases h'
        obtain ⟨s1, s2⟩ := Bool.and_eq_true_iff.mp (show (smlD d && smlsD ds) = true from s)
        exact a_cons (e_val h1 s1) (a_val h2 s2) (star_val h1 es)
end
theorem s_setV (i : Nat) {x : Str} {e : Ex} {d : D} {pos pos' : Pos} {rest : List Stmt} {o : Out} (hv : valD e = some d) (gd : Gd k X) (h2 : SX X (Γ.set i (.sh d)) rest o) (hd : smlD d = true := by rfl) (hl : i < Γ.length := by exact Nat.le_of_ble_eq_true rfl) (hi : X.N[i]? = some x := by rfl) (hx : Loc X.env.scope x := by first | exact Or.inl rfl | exact Or.inr rfl)
    (hs : swapsWith e (some (.Name x pos')) pos.line X.env = pure false := by rfl) (hf : X.fn x = true ∨ X.env.scope.names.lookup x = some .local := by first | exact .inl rfl | exact .inr rfl | assumption) : SX X Γ (.Assign [.Name x pos'] e pos :: rest) o :=
  s_cons (s1_set i gd.nd (e_val hv hd) hl (fun _ z => by cases z) hi hx hs hf) h2
/-- x = a written display -/
def asgV : Stmt → Option (Str × D)
  | .Assign [.Name x _] e _ => (valD e).map fun d => (x, d)
  | _ => none
theorem sw_val {e : Ex} {d : D} (h : valD e = some d) {t : Option Ex} {l : Nat} {env : Env} : swapsWith e t l env = pure false := by
  unfold valD at h
  split at h <;> first | rfl | cases h
theorem s_asgV (i : Nat) {x : Str} {st : Stmt} {d : D} {rest : List Stmt} {o : Out} (hv : asgV st = some (x, d)) (hd : smlD d = true) (gd : Gd k X) (hl : i < Γ.length) (hi : X.N[i]? = some x) (hx : X.env.scope.names.lookup x = some .local) (h2 : SX X (Γ.set i (.sh d)) rest o) : SX X Γ (st :: rest) o := by
  unfold asgV at hv
  split at hv
  · obtain ⟨d', e1, e2⟩ := Option.map_eq_some_iff.mp hv
    cases e2
    exact s_cons (s1_set i gd.nd (e_val e1 hd) hl (fun _ z => by cases z) hi (.inl hx) (sw_val e1) (.inr hx)) h2
  · cases hv
end
end PL

set_option Elab.async false
set_option linter.all false
set_option maxRecDepth 100000
set_option maxHeartbeats 1000000
/-! a list of texts: how often a text stands in it -/
namespace PL
open PySem PySem.Spec PyProof.Rows L2
def eqx (k : Str) (v : Value) : Bool := match v with
  | .str x _ => x.cps.toList == k.cps.toList
  | _ => false
theorem eqx_gives {k : Str} {t : Tok} : ∀ {us : List Value} {xs : List Str}, StrsAre us xs → ∀ y ∈ us, MeetsSeq.EqGives y (.str k t) (eqx k y)
  | _, _, .nil => fun y hy => by cases hy
  | _, _, .cons x t' h => fun y hy => (List.mem_cons.mp hy).elim (fun e => by rw [e]; exact SeqRoads2.EqGives.str x k t' t) fun e => eqx_gives h y e
theorem eqx_count {k : Str} : ∀ {us : List Value} {xs : List Str}, StrsAre us xs → us.countP (eqx k) = xs.count k
  | _, _, .nil => rfl
  | _, _, .cons x t h => by
    rw [List.countP_cons, List.count_cons, eqx_count h]
    have e : eqx k (.str x t) = (x == k) := by
      show (x.cps.toList == k.cps.toList) = (x == k)
      by_cases z : x = k
      · rw [z, beq_self_eq_true, beq_self_eq_true]
      · rw [beq_eq_false_iff_ne.mpr z, beq_eq_false_iff_ne]
        intro q
        apply z
        cases x; cases k
        simp only [Str.mk.injEq]
        exact Array.toList_inj.mp q
    rw [e]
def rCntS (K : PySem.W.Frag) : V → List V → Hp → VK → Prop := fun x xs H Q => ∃ (p : Addr) (ts : List Str) (k : Str), x = .ref p ∧ xs = [.str k] ∧ SqL K H p (ts.map V.str) ∧ Q (.int (ts.count k : Nat)) H
section
variable {X : Cx}
theorem mt_cntS : MtR X "list.count" (rCntS X.K) := by
  intro pins s σ H x xs v us Q I rx rxs h
  obtain ⟨p, ts, k, rfl, rfl, hs, q⟩ := h
  cases rx
  obtain ⟨u, rfl, t, rfl⟩ := rxs.one
  obtain ⟨its, rv, ⟨⟨cls, dd, data, sl⟩, n, ho, hc, hdn, hd⟩, hlen⟩ := I.list hs
  simp only at hc hd
  subst hc hd
  have hi := rv.strs
  refine call_meets PySem.F.slot_list_count ⟨_, ho, rfl⟩ PySem.F.entry_list_count (PySem.F.args_list_count_2 _ _) (SeqAt.list_countAt p its.toArray n dd sl (.str k t) (eqx k)) ⟨ho, fun y hy => (eqx_gives hi y (by simpa using hy)).at _ _, ?_⟩
  refine ⟨.int (ts.count k : Nat), H, I.tok _, ⟨s.toks, ?_⟩, q⟩
  show Value.int ((its.toArray.toList.countP (eqx k) : Nat) : Int) s.toks = Value.int ((ts.count k : Nat) : Int) s.toks
  rw [show its.toArray.toList.countP (eqx k) = ts.count k from eqx_count hi]
variable {Γ Γ1 Γ2 : Gm} {e o : Ex} {pos apos : Pos} {ts : List Str} {k : Str}
/-- o.count(e) -/
theorem e_count (ho : EX X Γ o (.sh (dL ts)) Γ1) (he : EX X Γ1 e (.sh (.str k)) Γ2) (hbase : attributeBase o "count" X.env (eval o X.env) = eval o X.env := by rfl)
    (hfew : ((backTo pos (starEach [e] X.env)).all (fun x => !x.1) && (backToKw pos (keywordEach [] X.env)).all (fun x => x.1.isSome)
      && decide ([e].length + ([] : List Keyword).length + (if ([] : List Keyword).isEmpty then 0 else 1) < 30)) = true := by rfl)
    (hline : (apos.endLine == pos.line) = true := by rfl) (hs : starEach [e] X.env = (false, eval e X.env) :: starEach [] X.env := by rfl) (hplain : (backTo pos (starEach [] X.env)).any (·.1) = false := by rfl) : EX X Γ (.Call (.Attribute o "count" apos) [e] [] pos) (.sh (.int (ts.count k : Nat))) Γ2 := fun F σ H S Q R q => by
  refine pe_we (pe_bm PySem.F.plainAttrs_list PySem.F.slot_list_count PySem.F.type_list_count mt_cntS we_pe (pa_cons we_pe pa_nil hs) hbase hfew hline hs hplain) (ho F σ H S _ R fun v H1 S1 R1 s1 ok => ?_)
  obtain ⟨a, vs, rfl, h1, h2⟩ := ok
  rw [h2.strs] at h1
  refine ⟨.inl ⟨rfl, _, .of (R1.sh _ _ h1)⟩, he F σ H1 S1 _ R1 fun u H2 S2 R2 s2 ok2 => ?_⟩
  exact ⟨a, ts, k, rfl, by rw [show u = V.str k from ok2], .of (R2.sh _ _ (s2 _ _ h1)), q _ H2 S2 R2 (s1.trans s2) rfl⟩
end
end PL

set_option Elab.async false
set_option linter.all false
set_option maxRecDepth 100000
set_option maxHeartbeats 1000000
/-! len(o), o an instance whose class has its own __len__ -/
namespace PL
open PySem PySem.Spec PyProof.Rows L2
section
variable {X : Cx} {n : Nat}
def rLenO (C : Addr) (sp : Sp) (E : XK) : List V → Hp → VK → Prop := fun vs H Q => ∃ (a dx : Addr) (fs : List (Str × V)), vs = [.ref a] ∧ H a = some (.ins C dx fs) ∧ sp [.ref a] H (fun v H' => ∃ z : Nat, v = .int z ∧ (z : Int) < 2 ^ 62 ∧ Q (.int z) H') E
theorem cr_lenO {CX : CXT} {C f : Addr} {fd : FuncData} {ps : List Str} {sp : Sp} {E : XK} (F : FnOk X.prog X.w X.K X.mg X.base CX n f fd ps sp) (hm : Meth X.K C "__len__" f) (hb : Binds X.K fd ps []) (hx : Passes CX X E) (hr : Room (n + 1) X.A) : CallR X (.builtin "len") (rLenO C sp E) := by
  intro pins s σ H vs us Q I r h
  obtain ⟨a, dx, fs, rfl, ha, hsp⟩ := h
  rw [Vals.ref1 r]
  obtain ⟨mA, J, _⟩ := ins_get I.hok ha
  obtain ⟨od, J, _⟩ := J.look
  have sp0 : PySem.W.Looks (model X.prog X.w) s.heap (specialOf (.ref a) "__len__") (some (.ref f)) := J.type.andThen (PySem.W.looks_findIn I.kIn hm.at_)
  have bn := PySem.W.bind_fn (M := model X.prog X.w) (h := s.heap) I.kIn (f := f) (.ref a) (beq_iff_eq.mp hm.fn)
  refine Calls.call_function_entry kind_len plain_len entry_len (args_len1 _) ?_
  unfold Builtin.«len»
  refine wpAny_bind (m := oneArg "len" _) (wpAny_pure ?_)
  refine wpAny_bind (m := callSpecial? (.ref a) (PySem.Str.ofString "__len__")) ?_
  simp only [callSpecial?]
  refine wpAny_bind (sp0.here ?_)
  refine wpAny_holding (wpAny_bind (bn.here (wpAny_bind ?_)))
  have e0 : Env0 X.prog X.w X.K X.mg X.base X.A.in1 X.stack s H := by
    have e := I.env0
    exact ⟨e.frames, e.mod, e.bs, e.bsz, e.funs, e.frf, e.hok, e.bare⟩
  have hl := F.len _ _ _ _ hsp
  refine wpAny_call (codeAny_mono (F.run X.A.in1 X.stack s H ⟨[.ref a], []⟩ [.ref a] [.ref a] _ E hr.in1 e0 (by
    have := hb s [.ref a] I.kIn (by simpa using hl)
    simpa using this) (.cons rfl .nil) hsp) fun r s' hq => ?_)
  cases r with
  | error e => exact hx pins σ H s e s' I hq
  | ok fl =>
    cases fl with
    | ret u =>
      obtain ⟨v, H', I', rv, z, rfl, hz, q⟩ := I.after hq
      obtain ⟨t, rfl⟩ := rv
      refine wpAny_pure ?_
      refine wpAny_bind (wpAny_holding (wpAny_pure ?_))
      refine wpAny_bind (wpAny_letGo ?_)
      show wpAny _ _ (if ((z : Nat) : Int) < 0 then _ else _) _ _ _
      rw [if_neg (by omega)]
      show wpAny _ _ (if ((z : Nat) : Int) ≥ 2 ^ 63 then _ else _) _ _ _
      rw [if_neg (by omega)]
      exact wpAny_bind (wpAny_mkInt (wpAny_pure ⟨_, rfl, .int z, H', I'.tok _, ⟨_, rfl⟩, q⟩))
    | next => exact False.elim hq
    | brk => exact False.elim hq
    | cont => exact False.elim hq
theorem c_lenO {P : List D → Rs → Prop} {C : Addr} {ns ps : List Str} {fs : List D} {j k z : Nat} (G : M0 X.prog X.w X.K X.mg X.base C "__len__" j ps P) (g : Gd k X) (hp : P [.obj C ns fs] (.sh (.int (z : Nat)))) (hz : (z : Int) < 2 ^ 62) (hk : j + 1 ≤ k := by decide) : CallS X (.builtin "len") [.obj C ns fs] (.sh (.int (z : Nat))) := by
  obtain ⟨f, fd, hm, b, Fo⟩ := G.ex
  refine ⟨_, cr_lenO (E := E0) Fo hm b passL (g.rm.mono hk), fun Γ F σ H S vs Q R r q => ?_⟩
  obtain ⟨v, rfl, rp⟩ := reps1 r
  obtain ⟨a, dx, ws, rfl, h1, h2, h3⟩ := id rp
  refine ⟨a, dx, _, rfl, R.sh _ _ h1, S, [_], .sh (.int (z : Nat)), hp, R.sh, .one rp, fun v H' S' t => ⟨z, t.res, hz, ?_⟩⟩
  obtain ⟨R2, ok2⟩ := R.after0 t
  exact q _ H' S' R2 t.ss rfl
end
end PL

set_option Elab.async false
set_option linter.all false
set_option maxRecDepth 100000
set_option maxHeartbeats 1000000
/-! == and != by an own __eq__ -/
namespace PL
open PySem PySem.Spec PyProof.Rows L2
section
variable {prog : Program} {w : World} {A : Around} {E : Value → Shared → Prop} {s : Shared} {K : PySem.W.Frag} {x C L f : Addr} {h₀ : Heap} {m : Str → Option Value} {ox : Obj} {od : Option Obj} {name : Str} {b tb : Value}
open PySem.W
/-- a special method that is a slot of object -/
theorem ifBound_B {M : Model} {id : String} {args : List Value} {Q : Option Value → Shared → Prop} (X : K.In s.heap) (I : InstAt s.heap x ox C od) (hs : findIn K (.ref C) name = some (some (.builtin id))) (hb : ∀ self, bindSpecial (.builtin id) self = pure (.builtin id, [self]))
    (h : wpAny M A (call (.builtin id) (.ref x :: args)) (fun v => Q (some v)) E s) : wpAny M A (callSpecialIfBound? (.ref x) name args) Q E s := by
  simp only [callSpecialIfBound?, bindSpecialIfBound?]
  refine wpAny_holding (wpAny_bind (wpAny_bind (wpAny_bind (I.type.here ((looks_findIn X hs).here ?_)))))
  refine wpAny_bind (wpAny_askSetting (wpAny_ite ?_))
  have fin : wpAny M A (call (.builtin id) ([.ref x] ++ args) >>= fun v => pure (some v)) Q E s := wpAny_bind (wpAny_mono h (fun v s' h' => wpAny_pure h') fun _ _ h' => h')
  split
  · exact wpAny_bind ((Looks.of_pure (hb _)).here (wpAny_pure (by exact fin)))
  · exact wpAny_tryCatch (wpAny_bind ((Looks.of_pure (hb _)).here (wpAny_pure (by exact fin))))
theorem cmp_KNe {Q : Value → Shared → Prop} (hu : A.units + 1 < cLine) (F : PyProof.Rows.Fr h₀ L s.heap m) (X₀ : K.In h₀) (I : InstAt s.heap x ox C od) (hb : Looks (model prog w) s.heap (typeOf b) tb) (hn : notFirst K C tb = true)
    (hs : findIn K (.ref C) "__ne__" = some (some (.builtin "object.__ne__"))) (hm : mroIn K C (.type "object") = some true) (he : findIn K (.ref C) "__eq__" = some (some (.ref f))) (hf : isFn K (.ref f) = true)
    (h : wpAny (model prog w) A.in1 (call (.ref f) [.ref x, b]) (fun v s' => ∃ k, v = .bool k ∧ Q (.bool (!k)) s') E s) : wpAny (model prog w) A (richCompare .NotEq (.ref x) b) Q E s := by
  have X := X₀.keeps F.keep
  have one : wpAny (model prog w) A (tryCompare (.ref x) "__ne__" b) (fun r s' => ∃ v, r = some v ∧ Q v s') E s := by
    unfold tryCompare
    refine wpAny_bind (ifBound_B X I hs PySem.F.slot_object_ne.bind (wpAny_call (codeAny_call_builtin PySem.F.slot_object_ne.plain PySem.F.cmpEntry_ne (check_slot (i := "object.__ne__") (owner := "object") (n := "__ne__") PySem.F.cmpKind_ne PySem.F.cmpSplit_ne (I.type.andThen (looks_mroIn X hm)) (PySem.F.cmpArgs_ne _ _) ?_))))
    unfold Builtin.«object.__ne__»
    refine wpAny_bind (m := slotArgs "__ne__" 1 _) (wpAny_pure ?_)
    refine wpAny_bind (m := cRoomFor _ _) (wpAny_cRoomFor (by exact hu) ?_)
    refine wpAny_bind (m := callSpecialIfBound? (.ref x) (Str.ofString "__eq__") [b]) (ifBound_K X I he hf (wpAny_mono h (fun v s' hv => ?_) fun _ _ e => e))
    obtain ⟨k, rfl, q⟩ := hv
    refine wpAny_bind (m := truthy (.bool k)) (wpAny_truthy_bool (wpAny_pure ?_))
    exact wpAny_pure ⟨_, rfl, q⟩
  unfold richCompare
  simp only [oneThing_ref]
  refine wpAny_holding (wpAny_bind (wpAny_cRoomFor (Nat.lt_of_succ_lt hu) ?_))
  refine wpAny_bind (I.type.here (wpAny_bind (hb.here ?_)))
  split
  · rename_i q
    have e : subIn K tb (.ref C) = some false := by
      rcases Bool.or_eq_true_iff.mp hn with e | e
      · rw [beq_iff_eq.mp e] at q; simp at q
      · exact beq_iff_eq.mp e
    refine wpAny_bind ((looks_subIn X e).here ?_)
    simp only [Bool.false_eq_true, if_false]
    refine wpAny_bind (wpAny_mono one (fun r s' z => ?_) fun _ _ e => e)
    obtain ⟨v, rfl, hq⟩ := z
    exact wpAny_pure hq
  · refine wpAny_bind (wpAny_pure ?_)
    simp only [Bool.false_eq_true, if_false]
    refine wpAny_bind (wpAny_mono one (fun r s' z => ?_) fun _ _ e => e)
    obtain ⟨v, rfl, hq⟩ := z
    exact wpAny_pure hq
end
section
variable {X : Cx} {n : Nat}
def rOwnEq (K : PySem.W.Frag) (C : Addr) (sp : Sp) (E : XK) (neg : Bool) : R2 := fun x y H Q => ∃ (a dx : Addr) (fs : List (Str × V)) (t : Value), x = .ref a ∧ H a = some (.ins C dx fs) ∧ TyX K H y t ∧ PySem.W.notFirst K C t = true ∧ sp [.ref a, y] H (fun v H' => ∃ k, v = .bl k ∧ Q (.bl (neg != k)) H') E
theorem run_own {CX : CXT} {f : Addr} {fd : FuncData} {ps : List Str} {sp : Sp} {E : XK} {A : Around} {σ : L2.St} {H : Hp} {pins : List (Addr × Obj)} {s : Shared} {a : Addr} {y : V} {u : Value} {R : V → Hp → Prop} (F : FnOk X.prog X.w X.K X.mg X.base CX n f fd ps sp) (hb : Binds X.K fd ps []) (hx : Passes CX X E) (hr : Room n A) (hA : A.frames = X.A.frames) (I : Inv X pins σ H s) (ry : RelV y u) (hsp : sp [.ref a, y] H (fun v H' => R v H') E) :
    wpAny (model X.prog X.w) A (call (.ref f) [.ref a, u]) (fun w s' => ∃ v H', Inv X pins σ H' s' ∧ RelV v w ∧ R v H') X.xe s := by
  have e0 : Env0 X.prog X.w X.K X.mg X.base A X.stack s H := by
    have e := I.env0
    exact ⟨by rw [hA]; exact e.frames, e.mod, e.bs, e.bsz, e.funs, e.frf, e.hok, e.bare⟩
  have hl := F.len _ _ _ _ hsp
  refine wpAny_call (codeAny_mono (F.run A X.stack s H ⟨[.ref a, u], []⟩ [.ref a, u] [.ref a, y] _ E hr e0 (by
    have := hb s [.ref a, u] I.kIn (by simpa using hl)
    simpa using this) (.cons rfl (.cons ry .nil)) hsp) fun r s' hq => ?_)
  cases r with
  | error e => exact hx pins σ H s e s' I hq
  | ok fl =>
    cases fl with
    | ret w =>
      obtain ⟨z, H', I', rz, q⟩ := I.after hq
      exact ⟨z, H', I', rz, q⟩
    | next => exact False.elim hq
    | brk => exact False.elim hq
    | cont => exact False.elim hq
theorem op_ownEq {CX : CXT} {C f : Addr} {fd : FuncData} {ps : List Str} {sp : Sp} {E : XK} (F : FnOk X.prog X.w X.K X.mg X.base CX n f fd ps sp) (hm : Meth X.K C "__eq__" f) (hb : Binds X.K fd ps []) (hx : Passes CX X E) (hr : Room n X.A) : OpR X (compareOp .Eq) (rOwnEq X.K C sp E false) := by
  intro pins s σ H x y v u Q I rx ry h
  obtain ⟨a, dx, fs, t, rfl, ha, ty, hn, hsp⟩ := h
  cases rx
  obtain ⟨mA, J, _⟩ := ins_get I.hok ha
  obtain ⟨od, J, _⟩ := J.look
  obtain ⟨m, hF⟩ := I.fr
  obtain ⟨P, Z, p, _⟩ := kit_of I ry ty
  show wpAny (model X.prog X.w) X.A (richCompare .Eq (.ref a) u) (EP X pins σ Q) X.xe s
  refine PySem.W.cmp_K (op := .Eq) (tb := t) hr.units0 hF I.ok.mod.kin J (Z.ty _ _ I.kIn p) hn hm.at_ hm.fn ?_
  refine wpAny_mono (run_own F hb hx hr rfl I ry hsp) (fun r s' z => ?_) fun _ _ e => e
  obtain ⟨z, H', I', rz, k, rfl, q⟩ := z
  cases rz
  exact ⟨.bl k, H', I', rfl, by simpa using q⟩
theorem op_ownNe {CX : CXT} {C f : Addr} {fd : FuncData} {ps : List Str} {sp : Sp} {E : XK} (F : FnOk X.prog X.w X.K X.mg X.base CX n f fd ps sp) (hm : Meth X.K C "__eq__" f) (hne : PySem.W.findIn X.K (.ref C) "__ne__" = some (some (.builtin "object.__ne__"))) (hob : PySem.W.mroIn X.K C (.type "object") = some true) (hb : Binds X.K fd ps []) (hx : Passes CX X E) (hr : Room (n + 1) X.A) : OpR X (compareOp .NotEq) (rOwnEq X.K C sp E true) := by
  intro pins s σ H x y v u Q I rx ry h
  obtain ⟨a, dx, fs, t, rfl, ha, ty, hn, hsp⟩ := h
  cases rx
  obtain ⟨mA, J, _⟩ := ins_get I.hok ha
  obtain ⟨od, J, _⟩ := J.look
  obtain ⟨m, hF⟩ := I.fr
  obtain ⟨P, Z, p, _⟩ := kit_of I ry ty
  show wpAny (model X.prog X.w) X.A (richCompare .NotEq (.ref a) u) (EP X pins σ Q) X.xe s
  refine cmp_KNe (tb := t) hr.in1.units0 hF I.ok.mod.kin J (Z.ty _ _ I.kIn p) hn hne hob hm.at_ hm.fn ?_
  refine wpAny_mono (run_own (A := X.A.in1) F hb hx hr.in1 rfl I ry hsp) (fun r s' z => ?_) fun _ _ e => e
  obtain ⟨z, H', I', rz, k, rfl, q⟩ := z
  cases rz
  exact ⟨k, rfl, .bl (!k), H', I', rfl, by simpa using q⟩
end
section
variable {X : Cx}
/-- what == asks of the right one's class -/
structure Nf (K : PySem.W.Frag) (C : Addr) : Prop where
  ic : Ic K C
  ty : ∀ t ∈ ["NoneType", "bool", "int", "str", "tuple", "list", "dict"], PySem.W.notFirst K C (.type t) = true
  ne : PySem.W.findIn K (.ref C) "__ne__" = some (some (.builtin "object.__ne__"))
theorem Nf.me {K : PySem.W.Frag} {C : Addr} : PySem.W.notFirst K C (.ref C) = true := by
  unfold PySem.W.notFirst
  rw [beq_self_eq_true]; rfl
theorem o_own {P : List D → Rs → Prop} {C : Addr} {ns ps : List Str} {fs : List D} {d : D} {j k : Nat} {b : Bool} (G : M0 X.prog X.w X.K X.mg X.base C "__eq__" j ps P) (c : Nf X.K C) (g : Gd k X) (hd : (∃ ns' fs', d = .obj C ns' fs') ∨ d.plain = true) (hp : P [.obj C ns fs, d] (.sh (.bl b))) (hk : j ≤ k := by decide) : OpS X (compareOp .Eq) (.obj C ns fs) d (.sh (.bl b)) := by
  obtain ⟨f, fd, hm, hb, Fo⟩ := G.ex
  refine ⟨_, op_ownEq Fo hm hb passL (g.rm.mono hk), fun Γ F σ H S x y Q R r1 r2 q => ?_⟩
  have rr := Reps.cons r1 (.one r2)
  obtain ⟨p, dx, us, rfl, h1, h2, h3⟩ := r1
  have ht : ∃ t, TyX X.K H y t ∧ PySem.W.notFirst X.K C t = true := by
    rcases hd with ⟨ns', fs', rfl⟩ | hd
    · obtain ⟨p', dx', us', rfl, h1', _, _⟩ := r2
      exact ⟨_, .base (.ins (R.sh _ _ h1') c.ic.ins.cl c.ic.ins.ha c.ic.ins.hn c.ic.ins.htk c.ic.ins.hm), Nf.me⟩
    · exact ⟨_, tyx_of hd R.sh r2, c.ty _ (ty_mem hd)⟩
  obtain ⟨t, ht, hn⟩ := ht
  refine ⟨p, dx, _, t, rfl, R.sh _ _ h1, ht, hn, S, [.obj C ns fs, d], _, hp, R.sh, rr, fun v H' S' t => ?_⟩
  obtain ⟨R', ok⟩ := R.after0 t
  rw [show v = V.bl b from ok]
  exact ⟨b, rfl, by simpa using q _ H' S' R' t.ss rfl⟩
theorem o_ownNe {P : List D → Rs → Prop} {C : Addr} {ns ps : List Str} {fs : List D} {d : D} {j k : Nat} {b : Bool} (G : M0 X.prog X.w X.K X.mg X.base C "__eq__" j ps P) (c : Nf X.K C) (g : Gd k X) (hd : (∃ ns' fs', d = .obj C ns' fs') ∨ d.plain = true) (hp : P [.obj C ns fs, d] (.sh (.bl b))) (hk : j + 1 ≤ k := by decide) : OpS X (compareOp .NotEq) (.obj C ns fs) d (.sh (.bl (!b))) := by
  obtain ⟨f, fd, hm, hb, Fo⟩ := G.ex
  refine ⟨_, op_ownNe Fo hm c.ne c.ic.ins.hm hb passL (g.rm.mono hk), fun Γ F σ H S x y Q R r1 r2 q => ?_⟩
  have rr := Reps.cons r1 (.one r2)
  obtain ⟨p, dx, us, rfl, h1, h2, h3⟩ := r1
  have ht : ∃ t, TyX X.K H y t ∧ PySem.W.notFirst X.K C t = true := by
    rcases hd with ⟨ns', fs', rfl⟩ | hd
    · obtain ⟨p', dx', us', rfl, h1', _, _⟩ := r2
      exact ⟨_, .base (.ins (R.sh _ _ h1') c.ic.ins.cl c.ic.ins.ha c.ic.ins.hn c.ic.ins.htk c.ic.ins.hm), Nf.me⟩
    · exact ⟨_, tyx_of hd R.sh r2, c.ty _ (ty_mem hd)⟩
  obtain ⟨t, ht, hn⟩ := ht
  refine ⟨p, dx, _, t, rfl, R.sh _ _ h1, ht, hn, S, [.obj C ns fs, d], _, hp, R.sh, rr, fun v H' S' t => ?_⟩
  obtain ⟨R', ok⟩ := R.after0 t
  rw [show v = V.bl b from ok]
  exact ⟨b, rfl, by simpa using q _ H' S' R' t.ss rfl⟩
end
end PL

set_option Elab.async false
set_option linter.all false
set_option maxRecDepth 100000
set_option maxHeartbeats 1000000
/-! what the head tells of own classes for isinstance -/
namespace PL
open PySem PySem.Spec PyProof.Rows L2
def tyNs : List String := ["NoneType", "bool", "int", "str", "tuple", "list", "dict"]
def eqB (a b : Option Bool) : Bool := decide (a = b)
def insB (K : PySem.W.Frag) (x : Str) : Bool :=
  He.eqO (PySem.W.findIn K (.ref (He.ga K x)) "__class__") (some (some (.builtin "object.__class__"))) &&
  (He.eqO (PySem.W.specialIn K (.builtin "object.__class__") "__get__") (some (some (.builtin "getset_descriptor.__get__"))) &&
  (eqB (PySem.W.takesIn K (.builtin "object.__class__")) (some true) &&
  (eqB (PySem.W.mroIn K (He.ga K x) (.type "object")) (some true) &&
  (eqB (PySem.W.kitOne K (.ref (He.ga K x)) (.ref (He.ga K x))) (some true) &&
  tyNs.all fun t => eqB (PySem.W.kitOne K (.type t) (.ref (He.ga K x))) (some false)))))
theorem insB_ok {K : PySem.W.Frag} {x : Str} (c : Cls K (He.ga K x)) (h : insB K x = true) : Ic K (He.ga K x) := by
  unfold insB at h
  obtain ⟨h1, h⟩ := He.ba h
  obtain ⟨h2, h⟩ := He.ba h
  obtain ⟨h3, h⟩ := He.ba h
  obtain ⟨h4, h⟩ := He.ba h
  obtain ⟨h5, h6⟩ := He.ba h
  exact ⟨⟨c, He.eqO_ok h1, He.eqO_ok h2, of_decide_eq_true h3, of_decide_eq_true h4, of_decide_eq_true h5⟩, fun t ht => of_decide_eq_true (List.all_eq_true.mp h6 t ht)⟩
def nfB (K : PySem.W.Frag) (x : Str) : Bool := He.eqO (PySem.W.findIn K (.ref (He.ga K x)) "__ne__") (some (some (.builtin "object.__ne__"))) && tyNs.all fun t => PySem.W.notFirst K (He.ga K x) (.type t)
theorem nfB_ok {K : PySem.W.Frag} {x : Str} (c : Ic K (He.ga K x)) (h : nfB K x = true) : Nf K (He.ga K x) := by
  obtain ⟨h1, h2⟩ := He.ba h
  exact ⟨c, fun t ht => List.all_eq_true.mp h2 t ht, He.eqO_ok h1⟩
def othB (K : PySem.W.Frag) (p : Str × Str) : Bool := eqB (PySem.W.kitOne K (.ref (He.ga K p.1)) (.ref (He.ga K p.2))) (some false)
theorem othB_ok {K : PySem.W.Frag} {p : Str × Str} (h : othB K p = true) : PySem.W.kitOne K (.ref (He.ga K p.1)) (.ref (He.ga K p.2)) = some false := of_decide_eq_true h
end PL

set_option Elab.async false
set_option linter.all false
set_option maxRecDepth 100000
set_option maxHeartbeats 2000000
/-! a caught exception that is kept: it stands as an object of its own behind the try -/
namespace PL
open PySem PySem.Spec PyProof.Rows L2
/-- at a: an exception of the class at C, without own fields -/
def ExV (C : Addr) (a : Addr) : HO := .ext fun h => ∃ (oe : Obj) (vs : Array Value), h.get? a = some oe ∧ Zc (.ref C) none oe ∧ oe.data = .fields vs
abbrev dX (C : Addr) : D := .ext (ExV C)
theorem exv_ok {P : Program} {w : World} {H : Hp} {h : Heap} {a C : Addr} {oe : Obj} {vs : Array Value} (e : h.get? a = some oe) (z : Zc (.ref C) none oe) (d : oe.data = .fields vs) : ObjOk P w H h a (ExV C a) :=
  ⟨⟨oe, vs, e, z, d⟩, ⟨_, e⟩, fun h1 h2 q k => by
    obtain ⟨o1, v1, e1, z1, d1⟩ := q
    exact ⟨o1, v1, k _ e1, z1, d1⟩⟩
theorem exv_at {P : Program} {w : World} {H : Hp} {h : Heap} {a C : Addr} (hok : HOk P w H h) (e : H a = some (ExV C a)) : ∃ (oe : Obj) (vs : Array Value), h.get? a = some oe ∧ Zc (.ref C) none oe ∧ oe.data = .fields vs := by
  obtain ⟨q, _⟩ := (show ObjOk P w H h a (ExV C a) from hok a _ e)
  exact q
section
variable {X : Cx} {pins : List (Addr × Obj)} {σ : L2.St} {H : Hp} {s : Shared}
/-- an object that was made since, and stands apart from all that is known, is known from now on -/
theorem inv_track {a : Addr} {o : HO} (I : Inv X pins σ H s) (n0 : X.s_0.heap.get? a = none) (na : H a = none) (nL : a ≠ X.env.locals) (nC : ∀ x c, X.env.cells.lookup x = some c → c ≠ a) (nP : ∀ p ∈ X.pn ++ pins, p.1 ≠ a) (new : ObjOk X.prog X.w (upd H a o) s.heap a o) : Inv X pins σ (upd H a o) s := by
  have st : ∀ b u, H b = some u → (upd H a o) b = some u := fun b u e => by
    rw [upd_ne (ne_of_none e na)]; exact e
  refine ⟨I.ok, I.os, I.bare, ⟨I.base.keep, I.base.slot, fun b ob e n x => ?_, I.base.there, fun b xs e => st b _ (I.base.tups b xs e), fun b ob u e => st b _ (I.base.frzs b ob u e), fun b ps e => ?_⟩, I.loc, I.cell, ?_, fun x c e => ?_, fun p hp => ?_, fun b u e => ?_, I.len⟩
  · have hb : b ≠ a := fun z => by rw [z, n0] at e; cases e
    rw [upd_ne hb]
    exact I.base.free b ob e n x
  · obtain ⟨more, q⟩ := I.base.tbls b ps e
    exact ⟨more, st b _ q⟩
  · rw [upd_ne (Ne.symm nL)]; exact I.free
  · rw [upd_ne (nC x c e)]; exact I.freeC x c e
  · obtain ⟨p1, p2, p3, p4, p5⟩ := I.pin p hp
    exact ⟨p1, by rw [upd_ne (nP p hp)]; exact p2, p3, p4, p5⟩
  · by_cases hb : b = a
    · subst hb
      rw [upd_same] at e
      cases e
      exact new
    · rw [upd_ne hb] at e
      exact (I.hok b u e).stay (fun _ _ _ r => r) (fun c q => st c _ q) fun c xs q => st c _ q
end
/-- what 'except x as n: y = n' wishes of an exception of the body: slot i is n's, slot m is y's -/
def wKept (K : PySem.W.Frag) (c : Value) (i m : Nat) (D : Ends) : L2.WX := fun cls d σ H =>
  ∃ C : Addr, cls = .ref C ∧ d = none ∧ PySem.W.exmOne K (.ref C) c = some true ∧ ∀ a, H a = none → D.nx (((σ.set i (some (.ref a))).set m (some (.ref a))).set i none) (upd H a (ExV C a))
section
variable {X : Cx} {x n y : Str} {c : Value} {i m : Nat} {body : List Stmt} {np pos pos' py pn' spos : Pos} {tb : L2.WX → TS}
theorem ps_try_kept (h1 : X.stack = X.env :: X.outer) (h2 : X.env.frame = some X.env.locals) (h3 : X.N.Nodup) (h4 : X.N[i]? = some n) (h5 : X.env.kindOf n = some .local) (h6 : X.N[m]? = some y) (h7 : X.env.scope.names.lookup y = some .local) (h8 : X.ex = []) (him : i ≠ m) (hn0 : (n == ("__debug__" : Str)) = false) (hn1 : (n == ("__classdict__" : Str)) = false) (hc : Names X x c)
    (hb : ∀ (W : L2.WX) (pn : List (Addr × Obj)) (xe : Value → Shared → Prop), Takes (X.tr pn xe) W → PassesOwn (model X.prog X.w) X.A X.env xe → PSs (X.tr pn xe) body (tb W))
    (hs2 : swapsWith (.Name n pn') (some (.Name y py)) spos.line X.env = pure false := by rfl) :
    PS X (.Try body [.ExceptHandler (some (.Name x np)) (some n) [.Assign [.Name y py] (.Name n pn') spos] pos'] [] [] pos) (fun D σ H => tb (wKept X.K c i m D) D σ H) := by
  refine ⟨fun pins s σ H D I h => wpAny_Try_except ?_⟩
  have k0 := I.ok
  have k1 : X.A.frames = some (X.env :: X.outer) := by rw [k0.frames, h1]
  let up1 : Value → Shared → Prop := fun e s₁ => wpAny (model X.prog X.w) X.A (noteFrame e X.env) (fun _ s₂ => wpAny (model X.prog X.w) X.A (setFlight e none) (fun _ s₃ => wpAny (model X.prog X.w) X.A (handleBy e X.env [.ExceptHandler (some (.Name x np)) (some n) [.Assign [.Name y py] (.Name n pn') spos] pos']) (SP X pins D) X.xe s₃) X.xe s₂) X.xe s₁
  have ctch : Takes (X.tr (X.pn ++ pins) up1) (wKept X.K c i m D) := by
    rintro u s1 ⟨a, B, sI, _, σ1, H1, cls, d, rfl, J0, nb, up, sky, na, os, ag, C, rfl, rfl, hm, hD⟩
    have J : Inv X pins σ1 H1 sI := J0.ofTry k0
    rw [show (X.tr (X.pn ++ pins) up1).stack = X.env :: X.outer from h1] at sky
    show wpAny (model X.prog X.w) X.A (noteFrame (.ref a) X.env) _ _ _
    refine Sky.land Zc.steady k1 h2 sky fun g1 f1 u1 => ?_
    have L1 : Inv X pins σ1 H1 { s1 with heap := g1 } := J.landed nb f1.1 (up.trans u1) os ag
    obtain ⟨oe, vs, q1, q2, q3⟩ := f1.there
    have apart : ∀ {g : Heap} {o : Obj} {ws : Array Value}, g.FunFrames B (X.env :: X.outer) → g.get? a = some o → o.data = .fields ws → a ∉ frs (X.env :: X.outer) := fun ff e dd hm => by
      obtain ⟨_, o', e', nf⟩ := ff.mem hm
      rw [e] at e'; cases e'
      exact nf _ dd
    have nfr := apart f1.2.2.1 q1 q3
    have nL : a ≠ X.env.locals := fun z => nfr (List.mem_filterMap.mpr ⟨X.env, List.mem_cons_self, by rw [h2, z]⟩)
    have nF : a ∉ X.fs := fun hm => by
      obtain ⟨e, he, q⟩ := List.mem_filterMap.mp hm
      exact nfr (List.mem_filterMap.mpr ⟨e, List.mem_cons_of_mem _ he, q⟩)
    have nI : sI.heap.get? a = none := by
      cases e : sI.heap.get? a with
      | none => rfl
      | some o =>
        have := nb a o e (by rw [h1]; exact nfr)
        rw [f1.2.1] at this; cases this
    have n0 : X.s_0.heap.get? a = none := by
      cases e : X.s_0.heap.get? a with
      | none => rfl
      | some o =>
        obtain ⟨o', q⟩ := J.base.there a o e (by rw [h8]; exact List.not_mem_nil)
        rw [nI] at q; cases q
    have T1 := L1.suite q1 q3 na nL nF
    refine wpAny_handleBy_cons (codeAny_handlers_test ?_) (by intro q; cases q)
    have look : PySem.W.Looks (model X.prog X.w) g1 (typeOf (.ref a)) (.ref C) := fun A Q E s k q => wpAny_typeOf_ref (k _ _ q1) (by rw [q2.1]; exact q)
    have mat := PySem.W.exm_one (M := model X.prog X.w) L1.kIn look hm
    have name : ∀ {Q : Value → Shared → Prop} {E : Value → Shared → Prop}, Q c { s1 with heap := g1 } → wpAny (model X.prog X.w) (X.A.mark (some (.ref a))) (eval (.Name x np) X.env) Q E { s1 with heap := g1 } := fun {Q E} q => by
      obtain ⟨w1, w2, w3 | ⟨w3, w4, w5⟩⟩ := hc
      · exact ld_glob (X := X.suite a ((a, oe) :: (X.pn ++ pins))) T1 w1 w3 q w2
      · exact ld_blt (X := X.suite a ((a, oe) :: (X.pn ++ pins))) T1 w1 w3 w4 q w5 w2
    refine name (mat.here (codeAny_handlers_suite_as (HandSPX.lands_againZ f1 fun g2 f2 u2 => ?_)))
    have L2' : Inv X pins σ1 H1 { s1 with heap := g2 } := J.landed nb f2.1 ((up.trans u1).trans u2) os ag
    obtain ⟨oe2, vs2, r1, r2, r3⟩ := f2.there
    have T2 := L2'.suite r1 r3 na nL nF
    refine store_ok (X := X.suite a ((a, oe2) :: (X.pn ++ pins))) (v := .ref a) T2 h3 h4 (.inl h5) rfl (fun s3 T3 => ?_) (.inr h5)
    have sr := (pss_one (ps_set (X := X.suite a ((a, oe2) :: (X.pn ++ pins))) (pos' := py) (pos := spos) h3 h6 (.inl h7) (pe_var (pos := pn') h4 (.inl h5) hn0 hn1) hs2 (.inr h7))).run [] s3 _ H1 { nx := fun σ' H' => σ' = ((σ1.set i (some (.ref a))).set m (some (.ref a))) ∧ H' = H1, rt := fun _ _ => False } T3 ⟨.ref a, by rw [List.getElem?_set_self (by rw [J.len]; exact (List.getElem?_eq_some_iff.mp h4).1)], rfl, rfl⟩
    refine wpAny_mono sr (fun f s4 q => ?_) fun _ _ z => False.elim z
    cases f with
    | brk => exact (q.elim fun _ q => q.elim fun _ q => q.2).elim
    | cont => exact (q.elim fun _ q => q.elim fun _ q => q.2).elim
    | ret u => exact (q.elim fun _ q => q.elim fun _ q => q.elim fun _ q => q.2.2).elim
    | next =>
      obtain ⟨σ4, H4, T4, rfl, rfl⟩ := q
      refine gone_ok (X := X.suite a ((a, oe2) :: (X.pn ++ pins))) T4 h3 h4 h5 fun s5 T5 => ?_
      obtain ⟨t1, _⟩ := T5.pin (a, oe2) (List.mem_append.mpr (.inl List.mem_cons_self))
      have J5 := T5.unsuite k0
      exact ⟨_, _, inv_track J5 n0 na nL (fun z cc e q => by
        obtain ⟨v, w⟩ := J.cell z cc e
        obtain ⟨oc, hoc, _⟩ := w
        rw [q, nI] at hoc; cases hoc) (fun p hp q => by
        have w := (J.pin p hp).1
        rw [q, nI] at w; cases w) (exv_ok t1 r2 r3), hD a na⟩
  have run := (hb (wKept X.K c i m D) (X.pn ++ pins) up1 ctch PassesOwn.looking).run [] s σ H D (I.toTry _) h
  refine wpAny_mono run (fun f s1 q => ?_) fun _ _ q => q
  cases f with
  | next =>
    obtain ⟨σ1, H1, J, w⟩ := q
    exact wpAny_execs_nil ⟨σ1, H1, J.ofTry k0, w⟩
  | brk => exact q.elim fun σ1 q => q.elim fun H1 q => ⟨σ1, H1, q.1.ofTry k0, q.2⟩
  | cont => exact q.elim fun σ1 q => q.elim fun H1 q => ⟨σ1, H1, q.1.ofTry k0, q.2⟩
  | ret u =>
    obtain ⟨v, σ1, H1, J, r, w⟩ := q
    exact ⟨v, σ1, H1, J.ofTry k0, r, w⟩
end
end PL

set_option Elab.async false
set_option linter.all false
set_option maxRecDepth 100000
set_option maxHeartbeats 2000000
/-! exceptions over data: what raises (ER, S1R, SR), defs that may raise (Ce), try .. except X as n: y = n -/
namespace PL
open PySem PySem.Spec PyProof.Rows L2
/-- e raises an exception of the class at C -/
def ER (X : Cx) (Γ : Gm) (e : Ex) (C : Addr) (Γ' : Gm) : Prop := ∀ F σ H S (Q : VK) (W : L2.WX), RS X.K F Γ σ H S → Takes X W → (∀ H' S', RS X.K F Γ' σ H' S' → Same S S' → W (.ref C) none σ H') → WE X e σ H Q
def S1R (X : Cx) (Γ : Gm) (st : Stmt) (C : Addr) (Γ' : Gm) : Prop := ∀ F σ H S (D : Ends) (W : L2.WX), RS X.K F Γ σ H S → Takes X W → (∀ σ' H' S', RS X.K F Γ' σ' H' S' → Same S S' → W (.ref C) none σ' H') → W1 X st D σ H
def SR (X : Cx) (Γ : Gm) (st : List Stmt) (C : Addr) (Γ' : Gm) : Prop := ∀ F σ H S (D : Ends) (W : L2.WX), RS X.K F Γ σ H S → Takes X W → (∀ σ' H' S', RS X.K F Γ' σ' H' S' → Same S S' → W (.ref C) none σ' H') → WS X st D σ H
section
variable {X : Cx} {Γ Γ1 Γ2 : Gm} {e c : Ex} {st : Stmt} {rest A B : List Stmt} {pos : Pos} {C : Addr} {k : Nat} {r : Rs}
theorem sr_hd (h : S1R X Γ st C Γ1) : SR X Γ (st :: rest) C Γ1 := fun F σ H S D W R tk q => pss_ws (pss_cons w1_ps ws_pss) (h F σ H S _ W R tk q)
theorem sr_cons (h : S1 X Γ st (.nx Γ1)) (h2 : SR X Γ1 rest C Γ2) : SR X Γ (st :: rest) C Γ2 := fun F σ H S D W R tk q =>
  pss_ws (pss_cons w1_ps ws_pss) (h F σ H S _ R fun σ1 H1 S1 R1 s1 => h2 F σ1 H1 S1 D W R1 tk fun σ2 H2 S2 R2 s2 => q σ2 H2 S2 R2 (s1.trans s2))
theorem s1r_ifT (h : TX X Γ c true Γ1) (h2 : SR X Γ1 A C Γ2) : S1R X Γ (.If c A B pos) C Γ2 := fun F σ H S D W R tk q =>
  ps_w1 (ps_if wt_pt ws_pss ws_pss) (h F σ H S _ R fun H1 S1 R1 s1 => iteT (h2 F σ H1 S1 D W R1 tk fun σ2 H2 S2 R2 s2 => q σ2 H2 S2 R2 (s1.trans s2)))
theorem s1r_ifF (h : TX X Γ c false Γ1) (h2 : SR X Γ1 B C Γ2) : S1R X Γ (.If c A B pos) C Γ2 := fun F σ H S D W R tk q =>
  ps_w1 (ps_if wt_pt ws_pss ws_pss) (h F σ H S _ R fun H1 S1 R1 s1 => iteF (h2 F σ H1 S1 D W R1 tk fun σ2 H2 S2 R2 s2 => q σ2 H2 S2 R2 (s1.trans s2)))
theorem s1r_expr (h : ER X Γ e C Γ1) (hs : swapsWith e none pos.line X.env = pure false := by rfl) : S1R X Γ (.Expr e pos) C Γ1 := fun F σ H S D W R tk q =>
  ps_w1 (ps_expr we_pe hs) (h F σ H S _ W R tk fun H1 S1 R1 s1 => q σ H1 S1 R1 s1)
theorem s1r_ret (h : ER X Γ e C Γ1) : S1R X Γ (.Return (some e) pos) C Γ1 := fun F σ H S D W R tk q =>
  ps_w1 (ps_ret we_pe) (h F σ H S _ W R tk fun H1 S1 R1 s1 => q σ H1 S1 R1 s1)
/-- a class of the program under a class of Python's own, without own __init__ -/
structure Xc (K : PySem.W.Frag) (mg : Str → Option Value) (x : Str) (C : Addr) : Prop where
  ex : ∃ (B newId initId : String) (bm : List Value), ExcBaseFacts B newId initId bm ∧ PySem.W.excIn K C bm newId = true
  gl : mg x = some (.ref C)
  kp : PySem.W.keepIn K (.ref C) = true
  sb : PySem.W.subIn K (.ref C) (.type "BaseException") = some true
  ty : PySem.W.typeIn K (.ref C) = some (.type "type")
theorem s1r_raise {x z : Str} {j : Nat} {p p2 p3 : Pos} (g : Gd k X) (c : Xc X.K X.mg x C) (hg : Gl X x := by rfl) (hd : (x == ("__debug__" : Str)) = false := by decide) : S1R X Γ (.Raise (some (.Call (.Name x p) [.Constant (.str z) j p2] [] p3)) none pos) C Γ := fun F σ H S D W R tk q => by
  obtain ⟨B, newId, initId, bm, fb, xi⟩ := c.ex
  exact ps_w1 (ps_raise g.calm tk (pmk_own fb xi c.gl c.kp (raises_own c.sb c.ty) hg hd)) (q σ H S R (.refl _))
end
/-! ### defs that may raise -/
inductive Rx where
  | ok (r : Rs) | ex (C : Addr)
def spE (K : PySem.W.Frag) (P : List D → Rx → Prop) : Sp := fun vs H Q E => ∃ S ds o, P ds o ∧ Same S H ∧ Reps K S ds vs ∧ match o with
  | .ok r => ∀ v H' S', Ret K S H (fun _ => False) r v H' S' → Q v H'
  | .ex C => ∀ H' S', Ret K S H (fun _ => False) (.sh .non) .non H' S' → E (.ref C) none H'
structure Ce (Pg : Program) (w : World) (K : PySem.W.Frag) (mg : Str → Option Value) (base : Heap) (x : Str) (j : Nat) (ps : List Str) (P : List D → Rx → Prop) : Prop where
  ex : ∃ f fd, mg x = some (.ref f) ∧ PySem.W.keepIn K (.ref f) = true ∧ Binds K fd ps [] ∧ FnOk Pg w K mg base (L2.CX Pg w) j f fd ps (spE K P)
section
variable {Pg : Program} {w : World} {K : PySem.W.Frag} {mg : Str → Option Value} {base : Heap} {x : Str} {st : Stmt} {N ps : List Str} {k : Nat}
/-- how a def's body ends -/
def EndsX (X : Cx) (Γ : Gm) (body : List Stmt) : Rx → Prop
  | .ok r => ∃ Γ', Ends1 X Γ body r Γ'
  | .ex C => ∃ Γ', SR X Γ body C Γ'
theorem ce_mk {P : List D → Rx → Prop} (Dd : Df K mg x st []) (Sc : FnScope N ps (defScope st)) (bd : BindsN x st ps) (hn : ps.length ≤ N.length) (hl : ∀ ds o, P ds o → ds.length = ps.length ∧ ∀ j, o ≠ .ok (.br j))
    (hb : ∀ f cd A outer s H E, Gd k (cx Pg w K mg base N x (defScope st) f cd A outer s H E) → ∀ ds o, P ds o → EndsX (cx Pg w K mg base N x (defScope st) f cd A outer s H E) (ent N ds) (defBody st) o) : Ce Pg w K mg base x (k + 1) ps P := by
  obtain ⟨f, fd, FD, gm⟩ := Dd.ex
  refine ⟨f, fd, gm, FD.kp, FD.bindsN bd, FD.ok Sc (fun vs H Q E h => ?_) (fun cd A outer s H vs Q E hr h => ?_)⟩
  · obtain ⟨S, ds, o, hp, _, rp, _⟩ := h
    rw [← rp.length]; exact (hl ds o hp).1
  · obtain ⟨S, ds, o, hp, hs, rp, q⟩ := h
    have e1 := hb f cd A outer s H E ⟨rfl, Sc.nd, cx_po, hr⟩ ds o hp
    have R0 := rs_start (K := K) (N := N) hs rp (by rw [← rp.length, (hl ds o hp).1]; exact hn)
    cases o with
    | ok r =>
      obtain ⟨Γ', e1⟩ := e1
      exact ⟨_, ws_pss, e1.run R0 fun v σ' H' S' R' s' ok => q v H' S' (ret_of (F := ⟨H, S, fun _ => False⟩) R' (fun _ z => z.elim) (fun j z => (hl ds _ hp).2 j (by rw [z])) ok)⟩
    | ex C =>
      obtain ⟨Γ', e1⟩ := e1
      refine ⟨_, ws_pss, e1 _ _ _ _ _ (fun cls d _ H => E cls d H) R0 (takes_of rfl rfl rfl rfl) fun σ' H' S' R' s' => q H' S' (ret_of (F := ⟨H, S, fun _ => False⟩) R' (fun _ z => z.elim) (fun _ z => by cases z) rfl)⟩
end
section
variable {X : Cx} {Γ Γ1 : Gm} {e : Ex} {es : List Ex} {p pos : Pos} {r : Rs} {ds : List D} {j k : Nat} {ps : List Str} {x : Str} {C : Addr} {P : List D → Rx → Prop}
theorem e_ce (G : Ce X.prog X.w X.K X.mg X.base x j ps P) (g : Gd k X) (ha : AX X Γ (e :: es) ds Γ1) (hp : P ds (.ok r)) (hk : j ≤ k := by decide) (hg : Gl X x := by rfl)
    (hdb : (x == ("__debug__" : Str)) = false := by decide) (he : starEach (e :: es) X.env = (false, eval e X.env) :: starEach es X.env := by rfl) (hpl : (backTo pos (starEach es X.env)).any (·.1) = false := by rfl) : EX X Γ (.Call (.Name x p) (e :: es) [] pos) r Γ1 := fun F σ H S Q R q => by
  obtain ⟨f, fd, gm, kp, b, Fo⟩ := G.ex
  refine pe_we (pe_call Fo (g.rm.mono hk) hg gm kp b .nil passL wa_pa hdb he hpl) (ha F σ H S _ R fun vs H1 S1 R1 s1 ok => ?_)
  rw [List.append_nil]
  exact ⟨S1, ds, .ok r, hp, R1.sh, ok, fun v H2 S2 t => by
    obtain ⟨R2, ok2⟩ := R1.after0 t
    exact q v H2 S2 R2 (s1.trans t.ss) ok2⟩
theorem er_ce (G : Ce X.prog X.w X.K X.mg X.base x j ps P) (g : Gd k X) (ha : AX X Γ (e :: es) ds Γ1) (hp : P ds (.ex C)) (hk : j ≤ k := by decide) (hg : Gl X x := by rfl)
    (hdb : (x == ("__debug__" : Str)) = false := by decide) (he : starEach (e :: es) X.env = (false, eval e X.env) :: starEach es X.env := by rfl) (hpl : (backTo pos (starEach es X.env)).any (·.1) = false := by rfl) : ER X Γ (.Call (.Name x p) (e :: es) [] pos) C Γ1 := fun F σ H S Q W R tk q => by
  obtain ⟨f, fd, gm, kp, b, Fo⟩ := G.ex
  refine pe_we (pe_callS (E := L2.WE W) Fo (g.rm.mono hk) hg gm kp b (fun σ => passAt tk σ) wa_pa hdb he hpl) (ha F σ H S _ R fun vs H1 S1 R1 s1 ok => ?_)
  exact ⟨S1, ds, .ex C, hp, R1.sh, ok, fun H2 S2 t => q H2 S2 (R1.after0 t).1 (s1.trans t.ss)⟩
end
/-! ### try: body / except x as n: y = n -/
section
variable {X : Cx} {Γ Γ1 : Gm} {x n y : Str} {C CB : Addr} {body : List Stmt} {np pos pos' py pn' spos : Pos} {k : Nat}
theorem Gd.tr (g : Gd k X) {pn : List (Addr × Obj)} {xe : Value → Shared → Prop} (po : PassesOwn (model X.prog X.w) X.A X.env xe) : Gd k (X.tr pn xe) := ⟨g.calm, g.nd, po, g.rm⟩
theorem set_thrice {σ : L2.St} {i m : Nat} {u v : Option V} (h : i ≠ m) : ((σ.set i u).set m v).set i none = (σ.set m v).set i none := by
  rw [List.set_comm _ _ h, List.set_set]
/-- .. that raises an exception of the class at C, which the clause takes -/
theorem s1_tryK (i m : Nat) (g : Gd k X) (gB : X.mg x = some (.ref CB)) (hm : PySem.W.exmOne X.K (.ref C) (.ref CB) = some true) (hb : ∀ pn xe, Gd k (X.tr pn xe) → SR (X.tr pn xe) Γ body C Γ1) (hu : Γ1[i]? = some .un) (hl : m < Γ1.length := by exact Nat.le_of_ble_eq_true rfl) (him : i ≠ m := by decide)
    (h1 : X.stack = X.env :: X.outer := by rfl) (h2 : X.env.frame = some X.env.locals := by rfl) (h4 : X.N[i]? = some n := by rfl) (h5 : X.env.kindOf n = some .local := by rfl) (h6 : X.N[m]? = some y := by rfl) (h7 : X.env.scope.names.lookup y = some .local := by rfl) (h8 : X.ex = [] := by rfl) (hn0 : (n == ("__debug__" : Str)) = false := by decide) (hn1 : (n == ("__classdict__" : Str)) = false := by decide)
    (hg : Gl X x := by rfl) (hdb : (x == ("__debug__" : Str)) = false := by decide) (hs2 : swapsWith (.Name n pn') (some (.Name y py)) spos.line X.env = pure false := by rfl) :
    S1 X Γ (.Try body [.ExceptHandler (some (.Name x np)) (some n) [.Assign [.Name y py] (.Name n pn') spos] pos'] [] [] pos) (.nx (Γ1.set m (.sh (dX C)))) := fun F σ H S D R q => by
  refine ps_w1 (ps_try_kept (tb := fun W D σ H => ∀ pn xe, Takes (X.tr pn xe) W → PassesOwn (model X.prog X.w) X.A X.env xe → WS (X.tr pn xe) body D σ H) h1 h2 g.nd h4 h5 h6 h7 h8 him hn0 hn1 ⟨hg, hdb, .inl gB⟩ (fun W pn xe tk po => ⟨fun pins s σ H D I h => h pn xe tk po pins s I⟩) hs2) ?_
  intro pn xe tk po
  refine hb pn xe (g.tr po) F σ H S D _ R tk fun σ' H' S' R' s' => ⟨C, rfl, rfl, hm, fun a na => ?_⟩
  obtain ⟨R2, s2⟩ := RS.laid (o := ExV C a) R' na
  have R3 := R2.put (r := .sh (dX C)) (v := .ref a) (i := m) hl ⟨a, rfl, upd_same⟩ (fun _ z => by cases z)
  have hu2 : (Γ1.set m (.sh (dX C)))[i]? = some .un := by rw [List.getElem?_set_ne (Ne.symm him)]; exact hu
  have R4 := RS.wipe R3 (unAt1 hu2)
  rw [set_thrice him]
  exact q _ _ _ R4 (s'.trans s2)
/-- .. that raises nothing -/
theorem s1_tryN {hd : ExceptHandler} (g : Gd k X) (hb : Gd k X.nox → SX X.nox Γ body (.nx Γ1)) : S1 X Γ (.Try body [hd] [] [] pos) (.nx Γ1) := fun F σ H S D R q => by
  exact ps_w1 (ps_try_thru0 ws_pss) (hb ⟨g.calm, g.nd, PassesOwn.never, g.rm⟩ F σ H S D R q)
end
/-! ### isinstance of what was caught -/
section
variable {X : Cx} {C CB : Addr} {b : Bool}
def rIsX (K : PySem.W.Frag) (C : Addr) : List V → Hp → VK → Prop := fun xs H Q => ∃ (a : Addr) (v : V) (u : Value) (t : Bool), xs = [.ref a, v] ∧ H a = some (ExV C a) ∧ (∀ z, RelV v z → z = u) ∧ PySem.W.kitOne K (.ref C) u = some t ∧ Q (.bl t) H
theorem call_isX (c : ExcC X.K C) : CallR X (.builtin "isinstance") (rIsX X.K C) := by
  rintro pins s σ H xs us Q I r ⟨a, v, u, t, rfl, ha, hv, hk, q⟩
  cases r with
  | cons r1 r2 =>
    cases r2 with
    | cons r3 r4 =>
      cases r4
      cases r1
      obtain rfl := hv _ r3
      obtain ⟨⟨oc, od, oda, osl⟩, vs, e1, ⟨z1, z2⟩, e3⟩ := exv_at I.hok ha
      dsimp only at z1 z2 e3
      subst z1 z2 e3
      exact PySem.W.kia_one (PySem.W.handS_kitx_exc c.hg c.hk c.hs c.hd c.ha c.hn c.ht c.hm) I.kIn ⟨e1, rfl, rfl, trivial⟩ hk (fun z => nomatch z) fun tk => ⟨.bl t, H, I.kept (t' := tk) fun _ _ z => z, rfl, q⟩
theorem c_isXo (c : ExcC X.K C) (hk : PySem.W.kitOne X.K (.ref C) (.ref CB) = some b) : CallS X (.builtin "isinstance") [dX C, .raw (.ref CB)] (.sh (.bl b)) := calls_sc (call_isX c) (.bl b) (fun _ => rfl) fun H S vs Q s r q => by
  obtain ⟨v, _, rfl, ⟨a, rfl, h1⟩, u, _, rfl, rfl, rfl⟩ := r
  exact ⟨a, .ref CB, .ref CB, b, rfl, s _ _ h1, fun z rz => by cases rz; rfl, hk, q⟩
theorem c_isXt {T : String} (c : ExcC X.K C) (hk : PySem.W.kitOne X.K (.ref C) (.type T) = some b) : CallS X (.builtin "isinstance") [dX C, .raw (.ty T)] (.sh (.bl b)) := calls_sc (call_isX c) (.bl b) (fun _ => rfl) fun H S vs Q s r q => by
  obtain ⟨v, _, rfl, ⟨a, rfl, h1⟩, u, _, rfl, rfl, rfl⟩ := r
  exact ⟨a, .ty T, .type T, b, rfl, s _ _ h1, fun z rz => by cases rz; rfl, hk, q⟩
end
end PL

set_option Elab.async false
set_option linter.all false
set_option maxRecDepth 100000
set_option maxHeartbeats 1000000
/-! xs.count(b), xs.index(b) of lists of truths -/
namespace PL
open PySem PySem.Spec PyProof.Rows L2
theorem eqU_count {y : V} : ∀ {ys : List V} {us : List Value}, Vals ys us → ys.all flatV = true → us.countP (eqU y) = ys.countP (fun z => eqV z y)
  | _, _, .nil, _ => rfl
  | _, _, .cons r t, f => by
    have f1 := Bool.and_eq_true_iff.mp (show (flatV _ && _) = true from f)
    rw [List.countP_cons, List.countP_cons, eqU_count t f1.2, eqU_of r f1.1]
theorem cnt_bls (k : Bool) : ∀ bs : List Bool, (bs.map V.bl).countP (fun z => eqV z (.bl k)) = bs.count k
  | [] => rfl
  | b :: bs => by
    rw [List.map_cons, List.countP_cons, List.count_cons, cnt_bls k bs]
    cases b <;> cases k <;> rfl
theorem flatB_all (bs : List Bool) : (bs.map V.bl).all flatV = true := by
  rw [List.all_eq_true]
  intro v hv
  obtain ⟨x, _, rfl⟩ := List.mem_map.mp hv
  rfl
def rCntB (K : PySem.W.Frag) : V → List V → Hp → VK → Prop := fun x xs H Q => ∃ (p : Addr) (bs : List Bool) (k : Bool), x = .ref p ∧ xs = [.bl k] ∧ SqL K H p (bs.map V.bl) ∧ Q (.int (bs.count k : Nat)) H
section
variable {X : Cx}
theorem mt_cntB : MtR X "list.count" (rCntB X.K) := by
  intro pins s σ H x xs v us Q I rx rxs h
  obtain ⟨p, bs, k, rfl, rfl, hs, q⟩ := h
  cases rx
  cases rxs with
  | cons ry rt =>
    rename_i uy ut
    cases rt
    obtain ⟨its, rv, ⟨⟨cls, dd, data, sl⟩, n, ho, hc, hdn, hd⟩, hlen⟩ := I.list hs
    simp only at hc hd
    subst hc hd
    have fl := flatB_all bs
    refine call_meets PySem.F.slot_list_count ⟨_, ho, rfl⟩ PySem.F.entry_list_count (PySem.F.args_list_count_2 _ _) (SeqAt.list_countAt p its.toArray n dd sl uy (eqU (.bl k))) ⟨ho, fun y hy => mem_eqAt ry rfl rv fl y (by simpa using hy), ?_⟩
    refine ⟨.int (bs.count k : Nat), H, I.tok _, ⟨s.toks, ?_⟩, q⟩
    show Value.int ((its.toArray.toList.countP (eqU (.bl k)) : Nat) : Int) s.toks = Value.int ((bs.count k : Nat) : Int) s.toks
    rw [show its.toArray.toList.countP (eqU (.bl k)) = bs.count k from (eqU_count rv fl).trans (cnt_bls k bs)]
variable {Γ Γ1 Γ2 : Gm} {e o : Ex} {pos apos : Pos} {bs : List Bool} {k : Bool}
theorem e_cntB (ho : EX X Γ o (.sh (.lst (bs.map .bl))) Γ1) (he : EX X Γ1 e (.sh (.bl k)) Γ2) (hbase : attributeBase o "count" X.env (eval o X.env) = eval o X.env := by rfl)
    (hfew : ((backTo pos (starEach [e] X.env)).all (fun x => !x.1) && (backToKw pos (keywordEach [] X.env)).all (fun x => x.1.isSome)
      && decide ([e].length + ([] : List Keyword).length + (if ([] : List Keyword).isEmpty then 0 else 1) < 30)) = true := by rfl)
    (hline : (apos.endLine == pos.line) = true := by rfl) (hs : starEach [e] X.env = (false, eval e X.env) :: starEach [] X.env := by rfl) (hplain : (backTo pos (starEach [] X.env)).any (·.1) = false := by rfl) : EX X Γ (.Call (.Attribute o "count" apos) [e] [] pos) (.sh (.int (bs.count k : Nat))) Γ2 := fun F σ H S Q R q => by
  refine pe_we (pe_bm PySem.F.plainAttrs_list PySem.F.slot_list_count PySem.F.type_list_count mt_cntB we_pe (pa_cons we_pe pa_nil hs) hbase hfew hline hs hplain) (ho F σ H S _ R fun v H1 S1 R1 s1 ok => ?_)
  obtain ⟨a, vs, rfl, h1, h2⟩ := ok
  rw [h2.bls] at h1
  refine ⟨.inl ⟨rfl, _, .of (R1.sh _ _ h1)⟩, he F σ H1 S1 _ R1 fun u H2 S2 R2 s2 ok2 => ?_⟩
  exact ⟨a, bs, k, rfl, by rw [show u = V.bl k from ok2], .of (R2.sh _ _ (s2 _ _ h1)), q _ H2 S2 R2 (s1.trans s2) rfl⟩
theorem e_idxB {j : Nat} (hj : bs[j]? = some k) (hf : ∀ m, m < j → bs[m]? ≠ some k) (ho : EX X Γ o (.sh (.lst (bs.map .bl))) Γ1) (he : EX X Γ1 e (.sh (.bl k)) Γ2) (hbase : attributeBase o "index" X.env (eval o X.env) = eval o X.env := by rfl)
    (hfew : ((backTo pos (starEach [e] X.env)).all (fun x => !x.1) && (backToKw pos (keywordEach [] X.env)).all (fun x => x.1.isSome)
      && decide ([e].length + ([] : List Keyword).length + (if ([] : List Keyword).isEmpty then 0 else 1) < 30)) = true := by rfl)
    (hline : (apos.endLine == pos.line) = true := by rfl) (hs : starEach [e] X.env = (false, eval e X.env) :: starEach [] X.env := by rfl) (hplain : (backTo pos (starEach [] X.env)).any (·.1) = false := by rfl) : EX X Γ (.Call (.Attribute o "index" apos) [e] [] pos) (.sh (.int (j : Nat))) Γ2 := fun F σ H S Q R q => by
  refine pe_we (pe_bm PySem.F.plainAttrs_list PySem.F.slot_list_index PySem.F.type_list_index mt_index we_pe (pa_cons we_pe pa_nil hs) hbase hfew hline hs hplain) (ho F σ H S _ R fun v H1 S1 R1 s1 ok => ?_)
  obtain ⟨a, vs, rfl, h1, h2⟩ := ok
  rw [h2.bls] at h1
  refine ⟨.inl ⟨rfl, _, .of (R1.sh _ _ h1)⟩, he F σ H1 S1 _ R1 fun u H2 S2 R2 s2 ok2 => ?_⟩
  refine ⟨a, bs.map V.bl, .bl k, j, .bl k, rfl, by rw [show u = V.bl k from ok2], .of (R2.sh _ _ (s2 _ _ h1)), rfl, flatB_all bs, by rw [List.getElem?_map, hj]; rfl, by cases k <;> rfl, fun m z hm hz => ?_, q _ H2 S2 R2 (s1.trans s2) rfl⟩
  rw [List.getElem?_map] at hz
  obtain ⟨b, hb, rfl⟩ := Option.map_eq_some_iff.mp hz
  have : b ≠ k := fun z => hf m hm (by rw [hb, z])
  cases b <;> cases k <;> first | rfl | exact absurd rfl this
end
end PL

set_option Elab.async false
set_option linter.all false
set_option maxRecDepth 100000
set_option maxHeartbeats 1000000
/-! what the head says of the classes of refusals -/
namespace PL
open PySem PySem.Spec PyProof.Rows L2
def knds : List Str := ["NoStripes", "NoThreads", "NoManner", "TooLong", "NoText", "NoNumber", "NoBox", "TooMany", "NoUndo", "NoOrder", "NoSpot", "NoCut", "NoShade", "NoName", "NoStep", "NoWay", "NoWeave"]
def fams : List Str := ["StripeError", "SpotError", "ShadeError", "StepError", "WayError"]
def owns : List String := ["ValueError", "IndexError", "KeyError", "ZeroDivisionError"]
def fm (i : Nat) : Nat := ([0, 0, 0, 0, 0, 0, 0, 0, 0, 0, 1, 1, 2, 2, 3, 4, 4] : List Nat).getD i 0
def lkp (i : Nat) : Bool := fm i == 1 || (fm i == 2 || fm i == 4)
abbrev knd (i : Nat) : Str := knds.getD i ""
abbrev fam (i : Nat) : Str := fams.getD i ""
abbrev ownT (i : Nat) : String := owns.getD i ""
abbrev kA (K : PySem.W.Frag) (i : Nat) : Addr := He.ga K (knd i)
def excCB (K : PySem.W.Frag) (x : Str) : Bool :=
  He.eqO (PySem.W.findIn K (.ref (He.ga K x)) "__getattribute__") (some (some (.builtin "BaseException.__getattribute__"))) &&
  (He.eqO (PySem.W.findIn K (.ref (He.ga K x)) "__getattr__") (some none) &&
  (eqB (PySem.W.subIn K (.ref (He.ga K x)) (.type "BaseException")) (some true) &&
  (PySem.W.hasDictIn K (He.ga K x) &&
  (He.eqO (PySem.W.findIn K (.ref (He.ga K x)) "__class__") (some (some (.builtin "object.__class__"))) &&
  (He.eqO (PySem.W.specialIn K (.builtin "object.__class__") "__get__") (some (some (.builtin "getset_descriptor.__get__"))) &&
  (eqB (PySem.W.takesIn K (.builtin "object.__class__")) (some true) &&
  eqB (PySem.W.mroIn K (He.ga K x) (.type "object")) (some true)))))))
theorem excCB_ok {K : PySem.W.Frag} {x : Str} (h : excCB K x = true) : ExcC K (He.ga K x) := by
  obtain ⟨h1, h⟩ := He.ba h
  obtain ⟨h2, h⟩ := He.ba h
  obtain ⟨h3, h⟩ := He.ba h
  obtain ⟨h4, h⟩ := He.ba h
  obtain ⟨h5, h⟩ := He.ba h
  obtain ⟨h6, h⟩ := He.ba h
  obtain ⟨h7, h8⟩ := He.ba h
  exact ⟨He.eqO_ok h1, He.eqO_ok h2, of_decide_eq_true h3, h4, He.eqO_ok h5, He.eqO_ok h6, of_decide_eq_true h7, of_decide_eq_true h8⟩
def kitA (K : PySem.W.Frag) (a : Addr) (v : Value) (b : Bool) : Bool := eqB (PySem.W.kitOne K (.ref a) v) (some b)
def srtB (K : PySem.W.Frag) (i : Nat) : Bool :=
  excCB K (knd i) &&
  ((List.range 17).all (fun j => kitA K (kA K i) (.ref (kA K j)) (j == i)) &&
  ((List.range 5).all (fun j => kitA K (kA K i) (.ref (He.ga K (fam j))) (j == fm i)) &&
  ((List.range 4).all (fun j => kitA K (kA K i) (.type (ownT j)) (j == fm i)) &&
  (kitA K (kA K i) (.type "LookupError") (lkp i) &&
  eqB (PySem.W.exmOne K (.ref (kA K i)) (.ref (He.ga K (fam (fm i))))) (some true)))))
/-- a class of refusals, as the law sorts them -/
structure Srt (K : PySem.W.Frag) (i : Nat) : Prop where
  ex : ExcC K (kA K i)
  k1 : ∀ j, j < 17 → PySem.W.kitOne K (.ref (kA K i)) (.ref (kA K j)) = some (j == i)
  k2 : ∀ j, j < 5 → PySem.W.kitOne K (.ref (kA K i)) (.ref (He.ga K (fam j))) = some (j == fm i)
  k3 : ∀ j, j < 4 → PySem.W.kitOne K (.ref (kA K i)) (.type (ownT j)) = some (j == fm i)
  k4 : PySem.W.kitOne K (.ref (kA K i)) (.type "LookupError") = some (lkp i)
  xm : PySem.W.exmOne K (.ref (kA K i)) (.ref (He.ga K (fam (fm i)))) = some true
theorem srtB_ok {K : PySem.W.Frag} {i : Nat} (h : srtB K i = true) : Srt K i := by
  obtain ⟨h1, h⟩ := He.ba h
  obtain ⟨h2, h⟩ := He.ba h
  obtain ⟨h3, h⟩ := He.ba h
  obtain ⟨h4, h⟩ := He.ba h
  obtain ⟨h5, h6⟩ := He.ba h
  exact ⟨excCB_ok h1, fun j hj => of_decide_eq_true (List.all_eq_true.mp h2 j (List.mem_range.mpr hj)), fun j hj => of_decide_eq_true (List.all_eq_true.mp h3 j (List.mem_range.mpr hj)), fun j hj => of_decide_eq_true (List.all_eq_true.mp h4 j (List.mem_range.mpr hj)), of_decide_eq_true h5, of_decide_eq_true h6⟩
def bmV : List Value := [.type "ValueError", .type "Exception", .type "BaseException", .type "object"]
def xcVB (K : PySem.W.Frag) (x : Str) : Bool :=
  PySem.W.excIn K (He.ga K x) bmV "ValueError.__new__" && (PySem.W.keepIn K (.ref (He.ga K x)) && (eqB (PySem.W.subIn K (.ref (He.ga K x)) (.type "BaseException")) (some true) && He.eqO (some (PySem.W.typeIn K (.ref (He.ga K x)))) (some (some (.type "type")))))
theorem xcVB_ok {K : PySem.W.Frag} {mg : Str → Option Value} {x : Str} (g : mg x = some (.ref (He.ga K x))) (h : xcVB K x = true) : Xc K mg x (He.ga K x) := by
  obtain ⟨h1, h⟩ := He.ba h
  obtain ⟨h2, h⟩ := He.ba h
  obtain ⟨h3, h4⟩ := He.ba h
  exact ⟨⟨_, _, _, _, PySem.F.excBase_ValueError, h1⟩, g, h2, of_decide_eq_true h3, Option.some.inj (He.eqO_ok h4)⟩
/-- all classes of refusals stand under their names -/
def Gk (K : PySem.W.Frag) (mg : Str → Option Value) : Prop := (∀ j, j < 17 → mg (knd j) = some (.ref (kA K j))) ∧ ∀ j, j < 5 → mg (fam j) = some (.ref (He.ga K (fam j)))
theorem b_ValueError : bootBuiltins "ValueError" = some (.type "ValueError") := by decide +kernel
theorem b_IndexError : bootBuiltins "IndexError" = some (.type "IndexError") := by decide +kernel
theorem b_KeyError : bootBuiltins "KeyError" = some (.type "KeyError") := by decide +kernel
theorem b_LookupError : bootBuiltins "LookupError" = some (.type "LookupError") := by decide +kernel
theorem b_ZeroDivisionError : bootBuiltins "ZeroDivisionError" = some (.type "ZeroDivisionError") := by decide +kernel
end PL

set_option Elab.async false
set_option linter.all false
set_option maxRecDepth 100000
set_option maxHeartbeats 1000000
namespace Hd
open PySem PySem.Spec PyProof.Rows L2 PL
section
variable {Pg : Program} {w : World} {K : PySem.W.Frag} {mg : Str → Option Value} {base : Heap}
def P_sort (K : PySem.W.Frag) : List D → Rs → Prop := fun ds r => ds = [dX (He.ga K "NoThreads")] ∧ r = .sh (.str "threads")
theorem cmp_bls (bs : List Bool) : Cmp (.lst (bs.map .bl)) := by
  have h1 : ∀ bs : List Bool, D.flats (bs.map D.bl) = true ∧ D.pys (bs.map D.bl) = bs.map PyData.bool ∧ PyData.canLayAll0 (bs.map PyData.bool) = true ∧ PyData.depthAll (bs.map PyData.bool) = 0 := by
    intro bs
    induction bs with
    | nil => exact ⟨rfl, rfl, rfl, rfl⟩
    | cons b bs ih =>
      obtain ⟨a1, a2, a3, a4⟩ := ih
      refine ⟨a1, ?_, a3, ?_⟩
      · show PyData.bool b :: D.pys (bs.map D.bl) = _
        rw [a2]; rfl
      · show max 0 (PyData.depthAll (bs.map PyData.bool)) = 0
        rw [a4]; rfl
  obtain ⟨a1, a2, a3, a4⟩ := h1 bs
  refine ⟨a1, ?_⟩
  show SeqAt.shaped (.list (D.pys (bs.map D.bl))) = true
  rw [a2]
  exact shaped_of a3 (by show PyData.depthAll _ + 1 ≤ 64; rw [a4]; decide)
set_option maxHeartbeats 4000000 in
theorem c_sort (Dd : Df K mg "_law_sort" s__law_sort []) (T : Bt mg) (gk : Gk K mg) (hS : Srt K 1) : C0 Pg w K mg base "_law_sort" 1 ["_law_caught"] (P_sort K) := by
  have a0 : PySem.W.kitOne K (.ref (He.ga K "NoThreads")) (.ref (He.ga K "NoStripes")) = some false := hS.k1 0 (by decide)
  have g0 : mg "NoStripes" = some (.ref (He.ga K "NoStripes")) := gk.1 0 (by decide)
  have a1 : PySem.W.kitOne K (.ref (He.ga K "NoThreads")) (.ref (He.ga K "NoThreads")) = some true := hS.k1 1 (by decide)
  have g1 : mg "NoThreads" = some (.ref (He.ga K "NoThreads")) := gk.1 1 (by decide)
  have a2 : PySem.W.kitOne K (.ref (He.ga K "NoThreads")) (.ref (He.ga K "NoManner")) = some false := hS.k1 2 (by decide)
  have g2 : mg "NoManner" = some (.ref (He.ga K "NoManner")) := gk.1 2 (by decide)
  have a3 : PySem.W.kitOne K (.ref (He.ga K "NoThreads")) (.ref (He.ga K "TooLong")) = some false := hS.k1 3 (by decide)
  have g3 : mg "TooLong" = some (.ref (He.ga K "TooLong")) := gk.1 3 (by decide)
  have a4 : PySem.W.kitOne K (.ref (He.ga K "NoThreads")) (.ref (He.ga K "NoText")) = some false := hS.k1 4 (by decide)
  have g4 : mg "NoText" = some (.ref (He.ga K "NoText")) := gk.1 4 (by decide)
  have a5 : PySem.W.kitOne K (.ref (He.ga K "NoThreads")) (.ref (He.ga K "NoNumber")) = some false := hS.k1 5 (by decide)
  have g5 : mg "NoNumber" = some (.ref (He.ga K "NoNumber")) := gk.1 5 (by decide)
  have a6 : PySem.W.kitOne K (.ref (He.ga K "NoThreads")) (.ref (He.ga K "NoBox")) = some false := hS.k1 6 (by decide)
  have g6 : mg "NoBox" = some (.ref (He.ga K "NoBox")) := gk.1 6 (by decide)
  have a7 : PySem.W.kitOne K (.ref (He.ga K "NoThreads")) (.ref (He.ga K "TooMany")) = some false := hS.k1 7 (by decide)
  have g7 : mg "TooMany" = some (.ref (He.ga K "TooMany")) := gk.1 7 (by decide)
  have a8 : PySem.W.kitOne K (.ref (He.ga K "NoThreads")) (.ref (He.ga K "NoUndo")) = some false := hS.k1 8 (by decide)
  have g8 : mg "NoUndo" = some (.ref (He.ga K "NoUndo")) := gk.1 8 (by decide)
  have a9 : PySem.W.kitOne K (.ref (He.ga K "NoThreads")) (.ref (He.ga K "NoOrder")) = some false := hS.k1 9 (by decide)
  have g9 : mg "NoOrder" = some (.ref (He.ga K "NoOrder")) := gk.1 9 (by decide)
  have a10 : PySem.W.kitOne K (.ref (He.ga K "NoThreads")) (.ref (He.ga K "NoSpot")) = some false := hS.k1 10 (by decide)
  have g10 : mg "NoSpot" = some (.ref (He.ga K "NoSpot")) := gk.1 10 (by decide)
  have a11 : PySem.W.kitOne K (.ref (He.ga K "NoThreads")) (.ref (He.ga K "NoCut")) = some false := hS.k1 11 (by decide)
  have g11 : mg "NoCut" = some (.ref (He.ga K "NoCut")) := gk.1 11 (by decide)
  have a12 : PySem.W.kitOne K (.ref (He.ga K "NoThreads")) (.ref (He.ga K "NoShade")) = some false := hS.k1 12 (by decide)
  have g12 : mg "NoShade" = some (.ref (He.ga K "NoShade")) := gk.1 12 (by decide)
  have a13 : PySem.W.kitOne K (.ref (He.ga K "NoThreads")) (.ref (He.ga K "NoName")) = some false := hS.k1 13 (by decide)
  have g13 : mg "NoName" = some (.ref (He.ga K "NoName")) := gk.1 13 (by decide)
  have a14 : PySem.W.kitOne K (.ref (He.ga K "NoThreads")) (.ref (He.ga K "NoStep")) = some false := hS.k1 14 (by decide)
  have g14 : mg "NoStep" = some (.ref (He.ga K "NoStep")) := gk.1 14 (by decide)
  have a15 : PySem.W.kitOne K (.ref (He.ga K "NoThreads")) (.ref (He.ga K "NoWay")) = some false := hS.k1 15 (by decide)
  have g15 : mg "NoWay" = some (.ref (He.ga K "NoWay")) := gk.1 15 (by decide)
  have a16 : PySem.W.kitOne K (.ref (He.ga K "NoThreads")) (.ref (He.ga K "NoWeave")) = some false := hS.k1 16 (by decide)
  have g16 : mg "NoWeave" = some (.ref (He.ga K "NoWeave")) := gk.1 16 (by decide)
  have b0 : PySem.W.kitOne K (.ref (He.ga K "NoThreads")) (.ref (He.ga K "StripeError")) = some true := hS.k2 0 (by decide)
  have h0 : mg "StripeError" = some (.ref (He.ga K "StripeError")) := gk.2 0 (by decide)
  have b1 : PySem.W.kitOne K (.ref (He.ga K "NoThreads")) (.ref (He.ga K "SpotError")) = some false := hS.k2 1 (by decide)
  have h1 : mg "SpotError" = some (.ref (He.ga K "SpotError")) := gk.2 1 (by decide)
  have b2 : PySem.W.kitOne K (.ref (He.ga K "NoThreads")) (.ref (He.ga K "ShadeError")) = some false := hS.k2 2 (by decide)
  have h2 : mg "ShadeError" = some (.ref (He.ga K "ShadeError")) := gk.2 2 (by decide)
  have b3 : PySem.W.kitOne K (.ref (He.ga K "NoThreads")) (.ref (He.ga K "StepError")) = some false := hS.k2 3 (by decide)
  have h3 : mg "StepError" = some (.ref (He.ga K "StepError")) := gk.2 3 (by decide)
  have b4 : PySem.W.kitOne K (.ref (He.ga K "NoThreads")) (.ref (He.ga K "WayError")) = some false := hS.k2 4 (by decide)
  have h4 : mg "WayError" = some (.ref (He.ga K "WayError")) := gk.2 4 (by decide)
  have c0 : PySem.W.kitOne K (.ref (He.ga K "NoThreads")) (.type "ValueError") = some true := hS.k3 0 (by decide)
  have c1 : PySem.W.kitOne K (.ref (He.ga K "NoThreads")) (.type "IndexError") = some false := hS.k3 1 (by decide)
  have c2 : PySem.W.kitOne K (.ref (He.ga K "NoThreads")) (.type "KeyError") = some false := hS.k3 2 (by decide)
  have c3 : PySem.W.kitOne K (.ref (He.ga K "NoThreads")) (.type "ZeroDivisionError") = some false := hS.k3 3 (by decide)
  have d0 : PySem.W.kitOne K (.ref (He.ga K "NoThreads")) (.type "LookupError") = some false := hS.k4
  have hx : ExcC K (He.ga K "NoThreads") := hS.ex
  refine c0_mk (k := 0) Dd sc__law_sort (fun _ _ _ _ _ _ us hl => match us, hl with | [_], _ => rfl) (by decide) (fun ds r => ?_) (fun f cd A outer s H E g ds r => ?_)
  · rintro ⟨rfl, rfl⟩
    exact ⟨rfl, fun _ z => by cases z⟩
  · rintro ⟨rfl, rfl⟩
    clear hS gk
    have hz := big2000
    have t11 : SX (cx Pg w K mg base N__law_sort "_law_sort" (defScope s__law_sort) f cd A outer s H E) [.sh (dX (He.ga K "NoThreads")), .sh (.lst [.bl false, .bl true, .bl false, .bl false, .bl false, .bl false, .bl false, .bl false, .bl false, .bl false, .bl false, .bl false, .bl false, .bl false, .bl false, .bl false, .bl false]), .sh (.lst [.bl true, .bl false, .bl false, .bl false, .bl false]), .sh (.lst [.bl true, .bl false, .bl false, .bl false]), .sh (.lst [.str "stripes", .str "threads", .str "manner", .str "long", .str "text", .str "number", .str "box", .str "many", .str "undo", .str "order", .str "spot", .str "cut"]), .un, .un, .un] ((defBody s__law_sort).drop 11) (.rt (.sh (.str "threads")) [.sh (dX (He.ga K "NoThreads")), .sh (.lst [.bl false, .bl true, .bl false, .bl false, .bl false, .bl false, .bl false, .bl false, .bl false, .bl false, .bl false, .bl false, .bl false, .bl false, .bl false, .bl false, .bl false]), .sh (.lst [.bl true, .bl false, .bl false, .bl false, .bl false]), .sh (.lst [.bl true, .bl false, .bl false, .bl false]), .sh (.lst [.str "stripes", .str "threads", .str "manner", .str "long", .str "text", .str "number", .str "box", .str "many", .str "undo", .str "order", .str "spot", .str "cut", .str "shade", .str "name", .str "step", .str "way", .str "weave"]), .sh (.int 1), .sh (.lst [.int 0, .int 0, .int 0, .int 0, .int 0, .int 0, .int 0, .int 0, .int 0, .int 0, .int 1, .int 1, .int 2, .int 2, .int 3, .int 4, .int 4]), .un]) := by
      refine s_cons (Γ1 := [.sh (dX (He.ga K "NoThreads")), .sh (.lst [.bl false, .bl true, .bl false, .bl false, .bl false, .bl false, .bl false, .bl false, .bl false, .bl false, .bl false, .bl false, .bl false, .bl false, .bl false, .bl false, .bl false]), .sh (.lst [.bl true, .bl false, .bl false, .bl false, .bl false]), .sh (.lst [.bl true, .bl false, .bl false, .bl false]), .sh (.lst [.str "stripes", .str "threads", .str "manner", .str "long", .str "text", .str "number", .str "box", .str "many", .str "undo", .str "order", .str "spot", .str "cut", .str "shade", .str "name", .str "step", .str "way", .str "weave"]), .un, .un, .un]) (s1_set 4 g.nd (e_fz (e_bin (o_catL (ds := [.str "stripes", .str "threads", .str "manner", .str "long", .str "text", .str "number", .str "box", .str "many", .str "undo", .str "order", .str "spot", .str "cut"]) (es := [.str "shade", .str "name", .str "step", .str "way", .str "weave"]) (by decide)) (e_var 4) (e_fz (e_lst (a_val rfl rfl)))))) ?_
      refine s_ifN (t_eq (t_w (w_or (t_cmp o_neI (e_cntB (bs := [false, true, false, false, false, false, false, false, false, false, false, false, false, false, false, false, false]) (e_var 1) e_bl) e_int) fun _ => w_or1 (t_cmp o_neI (e_cntB (bs := [true, false, false, false, false]) (e_var 2) e_bl) e_int))) rfl) ?_
      refine s_cons (Γ1 := [.sh (dX (He.ga K "NoThreads")), .sh (.lst [.bl false, .bl true, .bl false, .bl false, .bl false, .bl false, .bl false, .bl false, .bl false, .bl false, .bl false, .bl false, .bl false, .bl false, .bl false, .bl false, .bl false]), .sh (.lst [.bl true, .bl false, .bl false, .bl false, .bl false]), .sh (.lst [.bl true, .bl false, .bl false, .bl false]), .sh (.lst [.str "stripes", .str "threads", .str "manner", .str "long", .str "text", .str "number", .str "box", .str "many", .str "undo", .str "order", .str "spot", .str "cut", .str "shade", .str "name", .str "step", .str "way", .str "weave"]), .sh (.int 1), .un, .un]) (s1_set 5 g.nd (e_idxB (bs := [false, true, false, false, false, false, false, false, false, false, false, false, false, false, false, false, false]) (j := 1) rfl (by decide) (e_var 1) e_bl)) ?_
      refine s_cons (Γ1 := [.sh (dX (He.ga K "NoThreads")), .sh (.lst [.bl false, .bl true, .bl false, .bl false, .bl false, .bl false, .bl false, .bl false, .bl false, .bl false, .bl false, .bl false, .bl false, .bl false, .bl false, .bl false, .bl false]), .sh (.lst [.bl true, .bl false, .bl false, .bl false, .bl false]), .sh (.lst [.bl true, .bl false, .bl false, .bl false]), .sh (.lst [.str "stripes", .str "threads", .str "manner", .str "long", .str "text", .str "number", .str "box", .str "many", .str "undo", .str "order", .str "spot", .str "cut", .str "shade", .str "name", .str "step", .str "way", .str "weave"]), .sh (.int 1), .sh (.lst [.int 0, .int 0, .int 0, .int 0, .int 0, .int 0, .int 0, .int 0, .int 0, .int 0, .int 1, .int 1, .int 2, .int 2, .int 3, .int 4, .int 4]), .un]) (s1_set 6 g.nd (e_fz (e_bin (o_catL (ds := [.int 0, .int 0, .int 0, .int 0, .int 0, .int 0, .int 0, .int 0, .int 0, .int 0]) (es := [.int 1, .int 1, .int 2, .int 2, .int 3, .int 4, .int 4]) (by decide)) (e_fz (e_bin (o_repL (ds := [.int 0]) (k := 10) (by decide) (by decide) (by decide)) (e_fz (e_lst (a_cons e_int a_nil))) e_int)) (e_fz (e_lst (a_cons e_int (a_cons e_int (a_cons e_int (a_cons e_int (a_cons e_int (a_cons e_int (a_cons e_int a_nil)))))))))))) ?_
      refine s_ifN (t_eq (t_w (w_or (t_cmp o_neI (e_idxB (bs := [true, false, false, false, false]) (j := 0) rfl (by decide) (e_var 2) e_bl) (e_ix (e_var 6) (e_var 5) (i_list (d := .int 0) (atI_nat (j := 1) rfl)))) fun _ => w_or1 (t_cmp (o_neSelf g.rm.units (cmp_bls [true, false, false, false])) (e_var 3) (e_fz (e_eq (e_lc1 7 (fun (j : Nat) => .bl (decide ((0 : Int) = ((j : Nat) : Int)))) g (it_range1 (j := 4) T.range (a_cons e_int a_nil) (by decide) (by decide)) (by omega) (blkOk_by (N := N__law_sort) (sc := defScope s__law_sort) (by decide +kernel)) rfl (fun j hj s1 H1 C1 cl fp => ?_)) rfl))))) rfl) ?_
      · exact e_cmp o_eqI (e_ix (e_var 6) (e_var 5) (i_list (d := .int 0) (atI_nat (j := 1) rfl))) (e_var 7)
      refine s_ifN (t_eq (t_cmp o_neB (e_callB (c_isXt hx d0) T.isinstance b_isinstance (a_cons (e_var 0) (a_cons (e_ty (T "LookupError" (by decide)) b_LookupError) a_nil))) (e_cmp (o_inI (xs := [1, 2, 4])) (e_ix (e_var 6) (e_var 5) (i_list (d := .int 0) (atI_nat (j := 1) rfl))) (e_fz (e_lst (a_cons e_int (a_cons e_int (a_cons e_int a_nil))))))) rfl) ?_
      exact s_one (s1_ret (e_ix (e_var 4) (e_var 5) (i_list (d := .str "threads") (atI_nat (j := 1) rfl))))
    have t10 : SX (cx Pg w K mg base N__law_sort "_law_sort" (defScope s__law_sort) f cd A outer s H E) [.sh (dX (He.ga K "NoThreads")), .sh (.lst [.bl false, .bl true, .bl false, .bl false, .bl false, .bl false, .bl false, .bl false, .bl false, .bl false, .bl false, .bl false, .bl false, .bl false, .bl false, .bl false, .bl false]), .sh (.lst [.bl true, .bl false, .bl false, .bl false, .bl false]), .sh (.lst [.bl true, .bl false, .bl false, .bl false]), .un, .un, .un, .un] ((defBody s__law_sort).drop 10) (.rt (.sh (.str "threads")) [.sh (dX (He.ga K "NoThreads")), .sh (.lst [.bl false, .bl true, .bl false, .bl false, .bl false, .bl false, .bl false, .bl false, .bl false, .bl false, .bl false, .bl false, .bl false, .bl false, .bl false, .bl false, .bl false]), .sh (.lst [.bl true, .bl false, .bl false, .bl false, .bl false]), .sh (.lst [.bl true, .bl false, .bl false, .bl false]), .sh (.lst [.str "stripes", .str "threads", .str "manner", .str "long", .str "text", .str "number", .str "box", .str "many", .str "undo", .str "order", .str "spot", .str "cut", .str "shade", .str "name", .str "step", .str "way", .str "weave"]), .sh (.int 1), .sh (.lst [.int 0, .int 0, .int 0, .int 0, .int 0, .int 0, .int 0, .int 0, .int 0, .int 0, .int 1, .int 1, .int 2, .int 2, .int 3, .int 4, .int 4]), .un]) := by
      have e : ∃ (st : Stmt) (rest : List Stmt), (defBody s__law_sort).drop 10 = st :: rest ∧ asgV st = some (("_law_words" : Str), D.lst [.str "stripes", .str "threads", .str "manner", .str "long", .str "text", .str "number", .str "box", .str "many", .str "undo", .str "order", .str "spot", .str "cut"]) ∧ rest = (defBody s__law_sort).drop 11 := ⟨_, _, rfl, by kernel_rfl, rfl⟩
      obtain ⟨st, rest, e0, hv, e1⟩ := e
      rw [← e1] at t11
      rw [e0]
      exact s_asgV 4 hv (by kernel_rfl) g (by show 4 < 8; decide) rfl rfl t11
    have t0 : ∀ oc, SX (cx Pg w K mg base N__law_sort "_law_sort" (defScope s__law_sort) f cd A outer s H E) [.sh (dX (He.ga K "NoThreads")), .sh (.lst [.bl false, .bl true, .bl false, .bl false, .bl false, .bl false, .bl false, .bl false, .bl false, .bl false, .bl false, .bl false, .bl false, .bl false, .bl false, .bl false, .bl false]), .sh (.lst [.bl true, .bl false, .bl false, .bl false, .bl false]), .sh (.lst [.bl true, .bl false, .bl false, .bl false]), .un, .un, .un, .un] ((defBody s__law_sort).drop 10) oc → SX (cx Pg w K mg base N__law_sort "_law_sort" (defScope s__law_sort) f cd A outer s H E) [.sh (dX (He.ga K "NoThreads")), .un, .un, .un, .un, .un, .un, .un] (defBody s__law_sort) oc := by
      intro oc h
      refine s_cons (Γ1 := [.sh (dX (He.ga K "NoThreads")), .sh (.lst [.bl false, .bl true, .bl false]), .un, .un, .un, .un, .un, .un]) (s1_set 1 g.nd (e_fz (e_lst (a_cons (e_callB (c_isXo hx a0) T.isinstance b_isinstance (a_cons (e_var 0) (a_cons (e_globR g0) a_nil))) (a_cons (e_callB (c_isXo hx a1) T.isinstance b_isinstance (a_cons (e_var 0) (a_cons (e_globR g1) a_nil))) (a_cons (e_callB (c_isXo hx a2) T.isinstance b_isinstance (a_cons (e_var 0) (a_cons (e_globR g2) a_nil))) a_nil)))))) ?_
      refine s_cons (Γ1 := [.sh (dX (He.ga K "NoThreads")), .sh (.lst [.bl false, .bl true, .bl false, .bl false, .bl false, .bl false]), .un, .un, .un, .un, .un, .un]) (s1_set 1 g.nd (e_fz (e_bin (o_catL (ds := [.bl false, .bl true, .bl false]) (es := [.bl false, .bl false, .bl false]) (by decide)) (e_var 1) (e_fz (e_lst (a_cons (e_callB (c_isXo hx a3) T.isinstance b_isinstance (a_cons (e_var 0) (a_cons (e_globR g3) a_nil))) (a_cons (e_callB (c_isXo hx a4) T.isinstance b_isinstance (a_cons (e_var 0) (a_cons (e_globR g4) a_nil))) (a_cons (e_callB (c_isXo hx a5) T.isinstance b_isinstance (a_cons (e_var 0) (a_cons (e_globR g5) a_nil))) a_nil)))))))) ?_
      refine s_cons (Γ1 := [.sh (dX (He.ga K "NoThreads")), .sh (.lst [.bl false, .bl true, .bl false, .bl false, .bl false, .bl false, .bl false, .bl false, .bl false]), .un, .un, .un, .un, .un, .un]) (s1_set 1 g.nd (e_fz (e_bin (o_catL (ds := [.bl false, .bl true, .bl false, .bl false, .bl false, .bl false]) (es := [.bl false, .bl false, .bl false]) (by decide)) (e_var 1) (e_fz (e_lst (a_cons (e_callB (c_isXo hx a6) T.isinstance b_isinstance (a_cons (e_var 0) (a_cons (e_globR g6) a_nil))) (a_cons (e_callB (c_isXo hx a7) T.isinstance b_isinstance (a_cons (e_var 0) (a_cons (e_globR g7) a_nil))) (a_cons (e_callB (c_isXo hx a8) T.isinstance b_isinstance (a_cons (e_var 0) (a_cons (e_globR g8) a_nil))) a_nil)))))))) ?_
      refine s_cons (Γ1 := [.sh (dX (He.ga K "NoThreads")), .sh (.lst [.bl false, .bl true, .bl false, .bl false, .bl false, .bl false, .bl false, .bl false, .bl false, .bl false, .bl false, .bl false]), .un, .un, .un, .un, .un, .un]) (s1_set 1 g.nd (e_fz (e_bin (o_catL (ds := [.bl false, .bl true, .bl false, .bl false, .bl false, .bl false, .bl false, .bl false, .bl false]) (es := [.bl false, .bl false, .bl false]) (by decide)) (e_var 1) (e_fz (e_lst (a_cons (e_callB (c_isXo hx a9) T.isinstance b_isinstance (a_cons (e_var 0) (a_cons (e_globR g9) a_nil))) (a_cons (e_callB (c_isXo hx a10) T.isinstance b_isinstance (a_cons (e_var 0) (a_cons (e_globR g10) a_nil))) (a_cons (e_callB (c_isXo hx a11) T.isinstance b_isinstance (a_cons (e_var 0) (a_cons (e_globR g11) a_nil))) a_nil)))))))) ?_
      refine s_cons (Γ1 := [.sh (dX (He.ga K "NoThreads")), .sh (.lst [.bl false, .bl true, .bl false, .bl false, .bl false, .bl false, .bl false, .bl false, .bl false, .bl false, .bl false, .bl false, .bl false, .bl false, .bl false]), .un, .un, .un, .un, .un, .un]) (s1_set 1 g.nd (e_fz (e_bin (o_catL (ds := [.bl false, .bl true, .bl false, .bl false, .bl false, .bl false, .bl false, .bl false, .bl false, .bl false, .bl false, .bl false]) (es := [.bl false, .bl false, .bl false]) (by decide)) (e_var 1) (e_fz (e_lst (a_cons (e_callB (c_isXo hx a12) T.isinstance b_isinstance (a_cons (e_var 0) (a_cons (e_globR g12) a_nil))) (a_cons (e_callB (c_isXo hx a13) T.isinstance b_isinstance (a_cons (e_var 0) (a_cons (e_globR g13) a_nil))) (a_cons (e_callB (c_isXo hx a14) T.isinstance b_isinstance (a_cons (e_var 0) (a_cons (e_globR g14) a_nil))) a_nil)))))))) ?_
      refine s_cons (Γ1 := [.sh (dX (He.ga K "NoThreads")), .sh (.lst [.bl false, .bl true, .bl false, .bl false, .bl false, .bl false, .bl false, .bl false, .bl false, .bl false, .bl false, .bl false, .bl false, .bl false, .bl false, .bl false, .bl false]), .un, .un, .un, .un, .un, .un]) (s1_set 1 g.nd (e_fz (e_bin (o_catL (ds := [.bl false, .bl true, .bl false, .bl false, .bl false, .bl false, .bl false, .bl false, .bl false, .bl false, .bl false, .bl false, .bl false, .bl false, .bl false]) (es := [.bl false, .bl false]) (by decide)) (e_var 1) (e_fz (e_lst (a_cons (e_callB (c_isXo hx a15) T.isinstance b_isinstance (a_cons (e_var 0) (a_cons (e_globR g15) a_nil))) (a_cons (e_callB (c_isXo hx a16) T.isinstance b_isinstance (a_cons (e_var 0) (a_cons (e_globR g16) a_nil))) a_nil))))))) ?_
      refine s_cons (Γ1 := [.sh (dX (He.ga K "NoThreads")), .sh (.lst [.bl false, .bl true, .bl false, .bl false, .bl false, .bl false, .bl false, .bl false, .bl false, .bl false, .bl false, .bl false, .bl false, .bl false, .bl false, .bl false, .bl false]), .sh (.lst [.bl true, .bl false, .bl false]), .un, .un, .un, .un, .un]) (s1_set 2 g.nd (e_fz (e_lst (a_cons (e_callB (c_isXo hx b0) T.isinstance b_isinstance (a_cons (e_var 0) (a_cons (e_globR h0) a_nil))) (a_cons (e_callB (c_isXo hx b1) T.isinstance b_isinstance (a_cons (e_var 0) (a_cons (e_globR h1) a_nil))) (a_cons (e_callB (c_isXo hx b2) T.isinstance b_isinstance (a_cons (e_var 0) (a_cons (e_globR h2) a_nil))) a_nil)))))) ?_
      refine s_cons (Γ1 := [.sh (dX (He.ga K "NoThreads")), .sh (.lst [.bl false, .bl true, .bl false, .bl false, .bl false, .bl false, .bl false, .bl false, .bl false, .bl false, .bl false, .bl false, .bl false, .bl false, .bl false, .bl false, .bl false]), .sh (.lst [.bl true, .bl false, .bl false, .bl false, .bl false]), .un, .un, .un, .un, .un]) (s1_set 2 g.nd (e_fz (e_bin (o_catL (ds := [.bl true, .bl false, .bl false]) (es := [.bl false, .bl false]) (by decide)) (e_var 2) (e_fz (e_lst (a_cons (e_callB (c_isXo hx b3) T.isinstance b_isinstance (a_cons (e_var 0) (a_cons (e_globR h3) a_nil))) (a_cons (e_callB (c_isXo hx b4) T.isinstance b_isinstance (a_cons (e_var 0) (a_cons (e_globR h4) a_nil))) a_nil))))))) ?_
      refine s_cons (Γ1 := [.sh (dX (He.ga K "NoThreads")), .sh (.lst [.bl false, .bl true, .bl false, .bl false, .bl false, .bl false, .bl false, .bl false, .bl false, .bl false, .bl false, .bl false, .bl false, .bl false, .bl false, .bl false, .bl false]), .sh (.lst [.bl true, .bl false, .bl false, .bl false, .bl false]), .sh (.lst [.bl true, .bl false, .bl false]), .un, .un, .un, .un]) (s1_set 3 g.nd (e_fz (e_lst (a_cons (e_callB (c_isXt hx c0) T.isinstance b_isinstance (a_cons (e_var 0) (a_cons (e_ty (T "ValueError" (by decide)) b_ValueError) a_nil))) (a_cons (e_callB (c_isXt hx c1) T.isinstance b_isinstance (a_cons (e_var 0) (a_cons (e_ty (T "IndexError" (by decide)) b_IndexError) a_nil))) (a_cons (e_callB (c_isXt hx c2) T.isinstance b_isinstance (a_cons (e_var 0) (a_cons (e_ty (T "KeyError" (by decide)) b_KeyError) a_nil))) a_nil)))))) ?_
      refine s_cons (Γ1 := [.sh (dX (He.ga K "NoThreads")), .sh (.lst [.bl false, .bl true, .bl false, .bl false, .bl false, .bl false, .bl false, .bl false, .bl false, .bl false, .bl false, .bl false, .bl false, .bl false, .bl false, .bl false, .bl false]), .sh (.lst [.bl true, .bl false, .bl false, .bl false, .bl false]), .sh (.lst [.bl true, .bl false, .bl false, .bl false]), .un, .un, .un, .un]) (s1_set 3 g.nd (e_fz (e_bin (o_catL (ds := [.bl true, .bl false, .bl false]) (es := [.bl false]) (by decide)) (e_var 3) (e_fz (e_lst (a_cons (e_callB (c_isXt hx c3) T.isinstance b_isinstance (a_cons (e_var 0) (a_cons (e_ty (T "ZeroDivisionError" (by decide)) b_ZeroDivisionError) a_nil))) a_nil)))))) ?_
      assumption
    refine ends_rt (Γ' := [.sh (dX (He.ga K "NoThreads")), .sh (.lst [.bl false, .bl true, .bl false, .bl false, .bl false, .bl false, .bl false, .bl false, .bl false, .bl false, .bl false, .bl false, .bl false, .bl false, .bl false, .bl false, .bl false]), .sh (.lst [.bl true, .bl false, .bl false, .bl false, .bl false]), .sh (.lst [.bl true, .bl false, .bl false, .bl false]), .sh (.lst [.str "stripes", .str "threads", .str "manner", .str "long", .str "text", .str "number", .str "box", .str "many", .str "undo", .str "order", .str "spot", .str "cut", .str "shade", .str "name", .str "step", .str "way", .str "weave"]), .sh (.int 1), .sh (.lst [.int 0, .int 0, .int 0, .int 0, .int 0, .int 0, .int 0, .int 0, .int 0, .int 0, .int 1, .int 1, .int 2, .int 2, .int 3, .int 4, .int 4]), .un]) (t0 _ ?_)
    assumption
end
end Hd

set_option Elab.async false
set_option linter.all false
set_option maxRecDepth 100000
set_option maxHeartbeats 1000000
namespace Hd
open PySem PySem.Spec PyProof.Rows L2 PL
section
variable {Pg : Program} {w : World} {K : PySem.W.Frag} {mg : Str → Option Value} {base : Heap}
/-- whether data are threads -/
def thrB (es : List D) : Bool := (decide ((1 : Int) ≤ (es.length : Int)) && decide ((es.length : Int) ≤ 240)) && es.all shadeD
def NoThr (d : D) : Prop := (∃ es, d = .tup es ∧ (∀ x ∈ es, Pl x) ∧ es.length ≤ 1000 ∧ thrB es = false) ∨ (d.plain = true ∧ isTup d = false)
def P_areT : List D → Rs → Prop := fun ds r => (∃ es, (∀ x ∈ es, Pl x) ∧ es.length ≤ 1000 ∧ ds = [.tup es] ∧ r = .sh (.bl (thrB es))) ∨ ∃ d, d.plain = true ∧ isTup d = false ∧ ds = [d] ∧ r = .sh (.bl false)
theorem all_getD (es : List D) : (List.range es.length).all (fun (j : Nat) => shadeD (es.getD j .non)) = es.all shadeD := by
  rw [Bool.eq_iff_iff, List.all_eq_true, List.all_eq_true]
  constructor
  · intro h x hx
    obtain ⟨j, hj, rfl⟩ := List.getElem_of_mem hx
    have := h j (List.mem_range.mpr hj)
    rw [List.getD_eq_getElem?_getD, List.getElem?_eq_getElem hj] at this
    exact this
  · intro h j hj
    have hj := List.mem_range.mp hj
    rw [List.getD_eq_getElem?_getD, List.getElem?_eq_getElem hj]
    exact h _ (List.getElem_mem hj)
theorem c_areT (Dd : Df K mg "are_threads" s_are_threads []) (T : Bt mg) (G_M : ∃ t, mg "MOST" = some (.int 240 t)) (G_is_shade : C0 Pg w K mg base "is_shade" 2 ["thing"] P_is_shade) : C0 Pg w K mg base "are_threads" 3 ["thing"] P_areT := by
  obtain ⟨tM, gM⟩ := G_M
  refine c0_mk (k := 2) Dd sc_are_threads (fun _ _ _ _ _ _ us hl => match us, hl with | [_], _ => rfl) (by decide) (fun ds r => ?_) (fun f cd A outer s H E g ds r => ?_)
  · rintro (⟨es, _, _, rfl, rfl⟩ | ⟨d, _, _, rfl, rfl⟩) <;> exact ⟨rfl, fun _ z => by cases z⟩
  · rintro (⟨es, hp, hl, rfl, rfl⟩ | ⟨d, hp, ht, rfl, rfl⟩)
    · have hz := big2000
      refine ends_eq (ends_rt (s_one (s1_ret (e_and (e_callB (c_isTup (d := .tup es) rfl) T.isinstance b_isinstance (a_cons (e_var 0) (a_cons (e_ty T.tuple b_tuple) a_nil))) fun _ => e_and (e_chainI e_int (e_callB c_lenT T.len b_len (a_cons (e_var 0) a_nil)) (e_globI gM)) fun _ => e_one (e_callB (c_allR (n := es.length) (b := fun (j : Nat) => shadeD (es.getD j .non)) g.calm) T.all b_all (a_cons (e_fz (e_lc1 1 (fun (j : Nat) => .bl (shadeD (es.getD j .non))) g (it_tup (e_var 0)) (by omega) (blkOk_by (N := N_are_threads) (sc := defScope s_are_threads) (by decide +kernel)) rfl (fun j hj s1 H1 C1 cl fp => ?_))) a_nil)))))) ?_
      · have e0 : itd es j = es.getD j .non := rfl
        rw [e0]
        exact e_c0 G_is_shade g.blk (a_cons (e_var 1) a_nil) ⟨_, hp _ (by rw [List.getD_eq_getElem?_getD, List.getElem?_eq_getElem hj]; exact List.getElem_mem _), rfl, rfl⟩
      · rw [all_getD]
        show Rs.sh (D.bl (true && (_ && _))) = _
        rw [Bool.true_and]; rfl
    · exact ends_rt (s_one (s1_ret (e_andF (e_eq (e_callB (c_isTup hp) T.isinstance b_isinstance (a_cons (e_var 0) (a_cons (e_ty T.tuple b_tuple) a_nil))) (by rw [ht])))))
def P_stripes_of (CN : Addr) : List D → Rx → Prop := fun ds o => (∃ ts, Shs ts ∧ 0 < ts.length ∧ ts.length ≤ 240 ∧ ds = [dT ts] ∧ o = .ok (.sh (dS (mrg ts)))) ∨ ∃ d, NoThr d ∧ ds = [d] ∧ o = .ex CN
theorem thr_good {ts : List Str} (hs : Shs ts) (h0 : 0 < ts.length) (hl : ts.length ≤ 240) : thrB (ts.map .str) = true := by
  unfold thrB
  rw [List.length_map, decide_eq_true (by omega), decide_eq_true (by omega)]
  show (ts.map D.str).all shadeD = true
  rw [List.all_eq_true]
  intro d hd
  obtain ⟨t, ht, rfl⟩ := List.mem_map.mp hd
  exact hs t ht
theorem c_stripes_of (Dd : Df K mg "stripes_of" s_stripes_of []) (hX : Xc K mg "NoThreads" (He.ga K "NoThreads")) (G_areT : C0 Pg w K mg base "are_threads" 3 ["thing"] P_areT) (G_merged : C0 Pg w K mg base "merged" 1 ["threads"] P_merged) : Ce Pg w K mg base "stripes_of" 4 ["threads"] (P_stripes_of (He.ga K "NoThreads")) := by
  refine ce_mk (k := 3) Dd sc_stripes_of (fun _ _ _ _ _ _ us hl => match us, hl with | [_], _ => rfl) (by decide) (fun ds o => ?_) (fun f cd A outer s H E g ds o => ?_)
  · rintro (⟨ts, _, _, _, rfl, rfl⟩ | ⟨d, _, rfl, rfl⟩)
    · exact ⟨rfl, fun _ z => by cases z⟩
    · exact ⟨rfl, fun _ z => by cases z⟩
  · rintro (⟨ts, hs, h0, hl, rfl, rfl⟩ | ⟨d, hn, rfl, rfl⟩)
    · have pa : P_areT [dT ts] (.sh (.bl true)) := .inl ⟨ts.map .str, fun x hx => by
        obtain ⟨t, ht, rfl⟩ := List.mem_map.mp hx
        exact shade_pl (hs t ht), by rw [List.length_map]; omega, rfl, by rw [thr_good hs h0 hl]⟩
      exact ends_rt (s_ifN (t_eq (t_not (t_val (e_c0 G_areT g (a_cons (e_var 0) a_nil) pa))) rfl) (s_one (s1_ret (e_c0 G_merged g (a_cons (e_var 0) a_nil) ⟨ts, hs.ok, by omega, rfl, rfl⟩))))
    · have pa : P_areT [d] (.sh (.bl false)) := by
        rcases hn with ⟨es, rfl, h1, h2, h3⟩ | ⟨h1, h2⟩
        · exact .inl ⟨es, h1, h2, rfl, by rw [h3]⟩
        · exact .inr ⟨d, h1, h2, rfl, rfl⟩
      exact ⟨_, sr_hd (s1r_ifT (t_eq (t_not (t_val (e_c0 G_areT g (a_cons (e_var 0) a_nil) pa))) rfl) (sr_hd (s1r_raise g hX)))⟩
def P_refused : List D → Rs → Prop := fun ds r => ∃ d, NoThr d ∧ ds = [d] ∧ r = .sh (.bl true)
theorem c_refused (Dd : Df K mg "_law_refused" s__law_refused []) (gk : Gk K mg) (hS : Srt K 1) (G_sort : C0 Pg w K mg base "_law_sort" 1 ["_law_caught"] (P_sort K)) (G_so : Ce Pg w K mg base "stripes_of" 4 ["threads"] (P_stripes_of (He.ga K "NoThreads"))) : C0 Pg w K mg base "_law_refused" 5 ["_law_thing"] P_refused := by
  have gB : mg "StripeError" = some (.ref (He.ga K "StripeError")) := gk.2 0 (by decide)
  have xm : PySem.W.exmOne K (.ref (He.ga K "NoThreads")) (.ref (He.ga K "StripeError")) = some true := hS.xm
  refine c0_mk (k := 4) Dd sc__law_refused (fun _ _ _ _ _ _ us hl => match us, hl with | [_], _ => rfl) (by decide) (fun ds r => ?_) (fun f cd A outer s H E g ds r => ?_)
  · rintro ⟨d, _, rfl, rfl⟩
    exact ⟨rfl, fun _ z => by cases z⟩
  · rintro ⟨d, hn, rfl, rfl⟩
    apply ends_rt
    refine s_cons (Γ1 := [.sh d, .sh .non, .un]) (s1_set 1 g.nd e_non) ?_
    refine s_cons (Γ1 := [.sh d, .sh (dX (He.ga K "NoThreads")), .un]) ?_ ?_
    · exact s1_tryK 2 1 g gB xm (fun pn xe g' => sr_hd (s1r_expr (er_ce G_so g' (a_cons (e_var 0) a_nil) (.inr ⟨d, hn, rfl, rfl⟩)))) rfl
    · exact s_one (s1_ret (e_cmp o_eqS (e_c0 G_sort g (a_cons (e_var 1) a_nil) ⟨rfl, rfl⟩) e_str))
end
end Hd

set_option Elab.async false
set_option linter.all false
/-! periods of rounds, mirrors of rounds: plain lists -/
namespace PL
open PySem
def cyc (ts : List Str) (i : Int) : Str := ts.getD (i % (ts.length : Int)).toNat default
def Per (c : Int → Str) (k : Int) : Prop := ∀ i, c (i + k) = c i
section
variable {c : Int → Str} {a b : Int}
theorem Per.add (h : Per c a) (g : Per c b) : Per c (a + b) := fun i => by rw [← Int.add_assoc, g, h]
theorem Per.neg (h : Per c a) : Per c (-a) := fun i => by
  have z := h (i + -a)
  rw [show i + -a + a = i by omega] at z
  exact z.symm
theorem Per.zero : Per c 0 := fun i => by rw [Int.add_zero]
theorem Per.mulN (h : Per c a) : ∀ n : Nat, Per c (a * (n : Int))
  | 0 => by rw [show a * ((0 : Nat) : Int) = 0 from Int.mul_zero a]; exact .zero
  | n + 1 => by
    rw [show a * ((n + 1 : Nat) : Int) = a * (n : Int) + a by rw [Int.natCast_succ, Int.mul_add, Int.mul_one]]
    exact (h.mulN n).add h
theorem Per.mul (h : Per c a) (z : Int) : Per c (a * z) := by
  rcases Int.le_total 0 z with hz | hz
  · have e : z = ((z.toNat : Nat) : Int) := by omega
    rw [e]; exact h.mulN _
  · have e : a * z = -(a * (((-z).toNat : Nat) : Int)) := by
      rw [show (((-z).toNat : Nat) : Int) = -z by omega, Int.mul_neg, Int.neg_neg]
    rw [e]; exact (h.mulN _).neg
theorem Per.mod (h : Per c a) (g : Per c b) : Per c (b % a) := by
  rw [Int.emod_def, Int.sub_eq_add_neg]
  exact g.add (h.mul _).neg
theorem Per.gcd : ∀ m n : Nat, Per c (m : Int) → Per c (n : Int) → Per c ((Nat.gcd m n : Nat) : Int) := by
  intro m n
  induction m, n using Nat.gcd.induction with
  | H0 n => intro _ h; rw [Nat.gcd_zero_left]; exact h
  | H1 m n hm ih =>
    intro h1 h2
    rw [Nat.gcd_rec]
    refine ih ?_ h1
    rw [Int.natCast_emod]
    exact h1.mod h2
end
section
variable {ts : List Str}
theorem cyc_per : Per (cyc ts) ts.length := fun i => by unfold cyc; rw [Int.add_emod_right]
theorem cyc_nat {j : Nat} (h : j < ts.length) : cyc ts (j : Int) = ts.getD j default := by
  unfold cyc
  rw [Int.emod_eq_of_lt (by omega) (by omega)]
  rfl
theorem cyc_mod (i : Int) : cyc ts (i % (ts.length : Int)) = cyc ts i := by unfold cyc; rw [Int.emod_emod]
theorem ext_getD {xs ys : List Str} (hl : xs.length = ys.length) (h : ∀ j, j < xs.length → xs.getD j default = ys.getD j default) : xs = ys := by
  apply List.ext_getElem hl
  intro i h1 h2
  have z := h i h1
  rw [List.getD_eq_getElem?_getD, List.getElem?_eq_getElem h1, List.getD_eq_getElem?_getD, List.getElem?_eq_getElem h2] at z
  exact z
theorem ext_cyc {xs ys : List Str} (hl : xs.length = ys.length) (h : ∀ i, cyc xs i = cyc ys i) : xs = ys := ext_getD hl fun j hj => by
  rw [← cyc_nat hj, ← cyc_nat (by omega : j < ys.length)]
  exact h _
theorem getD_drop (k j : Nat) : (ts.drop k).getD j default = ts.getD (k + j) default := by
  rw [List.getD_eq_getElem?_getD, List.getElem?_drop, ← List.getD_eq_getElem?_getD]
theorem getD_take {k j : Nat} (h : j < k) : (ts.take k).getD j default = ts.getD j default := by
  rw [List.getD_eq_getElem?_getD, List.getElem?_take, if_pos h, ← List.getD_eq_getElem?_getD]
theorem per_root {k : Nat} (hk : 0 < k) (h : ∀ j, j + k < ts.length → ts.getD (j + k) default = ts.getD j default) : ∀ j, j < ts.length → ts.getD j default = ts.getD (j % k) default := by
  intro j
  induction j using Nat.strongRecOn with
  | ind j ih =>
    intro hj
    by_cases hlt : j < k
    · rw [Nat.mod_eq_of_lt hlt]
    · have e := h (j - k) (by omega)
      rw [show j - k + k = j by omega] at e
      rw [e, ih (j - k) (by omega) (by omega)]
      congr 1
      rw [Nat.mod_eq_sub_mod (by omega : j ≥ k)]
theorem perAt_iff {k : Nat} (hk : 0 < k) (hn : 0 < ts.length) : perAt ts k = true ↔ ts.length % k = 0 ∧ Per (cyc ts) (k : Int) := by
  unfold perAt
  rw [Bool.and_eq_true, decide_eq_true_iff, decide_eq_true_iff]
  refine and_congr_right fun hd => ⟨fun h i => ?_, fun h => ?_⟩
  · have key : ∀ j, j + k < ts.length → ts.getD (j + k) default = ts.getD j default := fun j hj => by
      have z := congrArg (fun l => l.getD j default) h
      rw [getD_drop, getD_take (by omega)] at z
      rw [Nat.add_comm]; exact z
    have root := per_root hk key
    rw [← cyc_mod (i + k), ← cyc_mod i]
    have a1 := Int.emod_nonneg (i + k) (b := (ts.length : Int)) (by omega)
    have a2 := Int.emod_lt_of_pos (i + k) (b := (ts.length : Int)) (by omega)
    have b1 := Int.emod_nonneg i (b := (ts.length : Int)) (by omega)
    have b2 := Int.emod_lt_of_pos i (b := (ts.length : Int)) (by omega)
    have e1 : (i + k) % (ts.length : Int) = ((((i + k) % (ts.length : Int)).toNat : Nat) : Int) := by omega
    have e2 : i % (ts.length : Int) = (((i % (ts.length : Int)).toNat : Nat) : Int) := by omega
    rw [e1, e2, cyc_nat (by omega), cyc_nat (by omega), root _ (by omega), root (i % (ts.length : Int)).toNat (by omega)]
    congr 1
    have hdv : (k : Int) ∣ (ts.length : Int) := Int.natCast_dvd_natCast.mpr (Nat.dvd_of_mod_eq_zero hd)
    have m1 : (i + k) % (ts.length : Int) % (k : Int) = i % (ts.length : Int) % (k : Int) := by
      rw [Int.emod_emod_of_dvd _ hdv, Int.emod_emod_of_dvd _ hdv, Int.add_emod_right]
    have m2 : ((((i + k) % (ts.length : Int)).toNat % k : Nat) : Int) = (((i % (ts.length : Int)).toNat % k : Nat) : Int) := by
      rw [Int.natCast_emod, Int.natCast_emod, ← e1, ← e2, m1]
    exact Int.ofNat_inj.mp m2
  · refine ext_getD (by rw [List.length_drop, List.length_take]; omega) fun j hj => ?_
    rw [List.length_drop] at hj
    rw [getD_drop, getD_take (by omega), ← cyc_nat (by omega), ← cyc_nat (by omega : j < ts.length), Int.natCast_add, Int.add_comm]
    exact h _
theorem lr_spec (hn : 0 < ts.length) : ts.length % lr ts = 0 ∧ Per (cyc ts) (lr ts) ∧ ∀ k, 0 < k → k < lr ts → ts.length % k = 0 → ¬ Per (cyc ts) (k : Int) := by
  unfold lr
  rcases first_or (n := ts.length - 1) fun i => perAt ts (i + 1) with ⟨m, hm, h1, h2⟩ | h2
  · rw [find_first hm h1 h2]
    have z := (perAt_iff (Nat.succ_pos m) hn).mp h1
    refine ⟨z.1, z.2, fun k hk hlt hd hp => ?_⟩
    have hlt' : k < m + 1 := hlt
    have w := h2 (k - 1) (by omega)
    rw [show k - 1 + 1 = k by omega, (perAt_iff hk hn).mpr ⟨hd, hp⟩] at w
    cases w
  · rw [find_none' h2]
    refine ⟨Nat.mod_self _, cyc_per, fun k hk hlt hd hp => ?_⟩
    have hlt' : k < ts.length := hlt
    have w := h2 (k - 1) (by omega)
    rw [show k - 1 + 1 = k by omega, (perAt_iff hk hn).mpr ⟨hd, hp⟩] at w
    cases w
theorem per_iff (hn : 0 < ts.length) (k : Int) : Per (cyc ts) k ↔ (lr ts : Int) ∣ k := by
  obtain ⟨h1, h2, h3⟩ := lr_spec hn
  refine ⟨fun h => ?_, fun ⟨z, e⟩ => by rw [e]; exact h2.mul z⟩
  have hL := lr_pos hn
  have r := h2.mod h
  have r1 := Int.emod_nonneg k (b := (lr ts : Int)) (by omega)
  have r2 := Int.emod_lt_of_pos k (b := (lr ts : Int)) (by omega)
  by_cases hz : k % (lr ts : Int) = 0
  · exact Int.dvd_of_emod_eq_zero hz
  · exfalso
    have e : k % (lr ts : Int) = (((k % (lr ts : Int)).toNat : Nat) : Int) := by omega
    generalize (k % (lr ts : Int)).toNat = m at e
    rw [e] at r r1 r2 hz
    have hm : 0 < m := by omega
    have g := r.gcd m ts.length cyc_per
    have gle : Nat.gcd m ts.length ≤ m := Nat.gcd_le_left _ hm
    have gpos : 0 < Nat.gcd m ts.length := Nat.gcd_pos_of_pos_left _ hm
    exact h3 _ gpos (by omega) (Nat.mod_eq_zero_of_dvd (Nat.gcd_dvd_right _ _)) g
theorem lr_congr {xs ys : List Str} (hx : 0 < xs.length) (hy : 0 < ys.length) (h : ∀ k, Per (cyc xs) k ↔ Per (cyc ys) k) : lr xs = lr ys := by
  apply Nat.dvd_antisymm
  · apply Int.natCast_dvd_natCast.mp
    rw [← per_iff hx, h, per_iff hy]
    exact Int.dvd_refl _
  · apply Int.natCast_dvd_natCast.mp
    rw [← per_iff hy, ← h, per_iff hx]
    exact Int.dvd_refl _
end
/-! ### turning a round on -/
theorem spin_len (wd : List Str) (n : Nat) (st : Int) : (spin wd n st).length = n := by unfold spin; rw [List.length_map, List.length_range]
theorem spin_getD {wd : List Str} {n : Nat} {st : Int} {j : Nat} (h : j < n) : (spin wd n st).getD j default = wd.getD (((j : Int) + st) % (n : Int)).toNat default := by
  unfold spin
  rw [List.getD_eq_getElem?_getD, List.getElem?_map, List.getElem?_range h]
  rfl
theorem cyc_spin {wd : List Str} {n : Nat} {st : Int} (hn : 0 < n) (hle : n ≤ wd.length) (hp : Per (cyc wd) n) (i : Int) : cyc (spin wd n st) i = cyc wd (i + st) := by
  have a1 := Int.emod_nonneg i (b := (n : Int)) (by omega)
  have a2 := Int.emod_lt_of_pos i (b := (n : Int)) (by omega)
  unfold cyc
  rw [spin_len, spin_getD (by omega)]
  rw [show (((i % (n : Int)).toNat : Nat) : Int) = i % (n : Int) by omega]
  have b1 := Int.emod_nonneg (i % (n : Int) + st) (b := (n : Int)) (by omega)
  have b2 := Int.emod_lt_of_pos (i % (n : Int) + st) (b := (n : Int)) (by omega)
  have e : (i % (n : Int) + st) % (n : Int) = ((((i % (n : Int) + st) % (n : Int)).toNat : Nat) : Int) := by omega
  rw [← cyc_nat (ts := wd) (by omega), ← e, Int.emod_add_emod]
  show _ = cyc wd (i + st)
  rw [Int.emod_def, Int.sub_eq_add_neg]
  exact (hp.mul _).neg _
def Prim (ts : List Str) : Prop := 0 < ts.length ∧ lr ts = ts.length
theorem per_shift {c c' : Int → Str} {st : Int} (h : ∀ i, c' i = c (i + st)) (k : Int) : Per c' k ↔ Per c k := by
  refine ⟨fun p i => ?_, fun p i => ?_⟩
  · have z := p (i - st)
    rw [h, h, show i - st + k + st = i + k by omega, show i - st + st = i by omega] at z
    exact z
  · rw [h, h, show i + k + st = i + st + k by omega]
    exact p _
theorem per_turn {c c' : Int → Str} (h : ∀ i, c' i = c (-i)) (k : Int) : Per c' k ↔ Per c k := by
  refine ⟨fun p i => ?_, fun p i => ?_⟩
  · have z := p.neg (-i)
    rw [h, h, show -(-i + -k) = i + k by omega, Int.neg_neg] at z
    exact z
  · rw [h, h, show -(i + k) = -i + -k by omega]
    exact p.neg _
theorem spin_prim {wd : List Str} (hw : 0 < wd.length) (st : Int) : Prim (spin wd (lr wd) st) := by
  have hp := lr_pos hw
  have hs := lr_spec hw
  refine ⟨by rw [spin_len]; exact hp, ?_⟩
  rw [spin_len]
  exact lr_congr (by rw [spin_len]; exact hp) hw (per_shift (cyc_spin hp (lr_le _) hs.2.1))
theorem spin_take {wd : List Str} (hw : 0 < wd.length) : spin wd (lr wd) 0 = wd.take (lr wd) := by
  have hle := lr_le wd
  refine ext_getD (by rw [spin_len, List.length_take]; omega) fun j hj => ?_
  rw [spin_len] at hj
  rw [spin_getD hj, getD_take hj, Int.add_zero, Int.emod_eq_of_lt (by omega) (by omega)]
  rfl
theorem take_prim {wd : List Str} (hw : 0 < wd.length) : Prim (wd.take (lr wd)) := by rw [← spin_take hw]; exact spin_prim hw 0
/-! ### mirrors -/
def mirW (ts : List Str) (a : Nat) : List Str := (ts.take (a + 1)).reverse ++ (ts.drop (a + 1)).reverse
def mirAt (ts : List Str) (a : Nat) : Bool := decide (ts = mirW ts a)
def mir (ts : List Str) : Option Nat := (List.range ts.length).find? (mirAt ts)
def MirF (c : Int → Str) (a : Int) : Prop := ∀ i, c i = c (a - i)
theorem mirW_len (ts : List Str) (a : Nat) : (mirW ts a).length = ts.length := by
  unfold mirW
  rw [List.length_append, List.length_reverse, List.length_reverse, List.length_take, List.length_drop]; omega
theorem getD_rev (xs : List Str) {j : Nat} (h : j < xs.length) : xs.reverse.getD j default = xs.getD (xs.length - 1 - j) default := by
  rw [List.getD_eq_getElem?_getD, List.getElem?_reverse h, ← List.getD_eq_getElem?_getD]
theorem mirW_getD {ts : List Str} {a j : Nat} (ha : a < ts.length) (hj : j < ts.length) : (mirW ts a).getD j default = cyc ts ((a : Int) - (j : Int)) := by
  have hl : (ts.take (a + 1)).reverse.length = a + 1 := by rw [List.length_reverse, List.length_take]; omega
  unfold mirW
  rw [List.getD_eq_getElem?_getD]
  by_cases hja : j ≤ a
  · rw [List.getElem?_append_left (by omega), ← List.getD_eq_getElem?_getD, getD_rev _ (by rw [List.length_take]; omega), List.length_take, getD_take (by omega), ← cyc_nat (by omega)]
    congr 1
    omega
  · rw [List.getElem?_append_right (by omega), ← List.getD_eq_getElem?_getD, hl, getD_rev _ (by rw [List.length_drop]; omega), List.length_drop, getD_drop, ← cyc_nat (by omega), ← cyc_per ((a : Int) - (j : Int))]
    congr 1
    omega
theorem mirAt_iff {ts : List Str} {a : Nat} (ha : a < ts.length) : mirAt ts a = true ↔ MirF (cyc ts) (a : Int) := by
  unfold mirAt
  rw [decide_eq_true_iff]
  refine ⟨fun h i => ?_, fun h => ?_⟩
  · have b1 := Int.emod_nonneg i (b := (ts.length : Int)) (by omega)
    have b2 := Int.emod_lt_of_pos i (b := (ts.length : Int)) (by omega)
    have e : i % (ts.length : Int) = (((i % (ts.length : Int)).toNat : Nat) : Int) := by omega
    have z := congrArg (fun l => l.getD (i % (ts.length : Int)).toNat default) h
    rw [mirW_getD ha (by omega), ← e] at z
    show ts.getD (i % (ts.length : Int)).toNat default = _
    rw [z, Int.emod_def, show (a : Int) - (i - (ts.length : Int) * (i / (ts.length : Int))) = (a - i) + (ts.length : Int) * (i / (ts.length : Int)) by omega]
    exact cyc_per.mul _ _
  · refine ext_getD (mirW_len ts a).symm fun j hj => ?_
    rw [mirW_getD ha hj, ← cyc_nat hj]
    exact h _
theorem mir_uniq {ts : List Str} (hp : Prim ts) {a b : Int} (ha : MirF (cyc ts) a) (hb : MirF (cyc ts) b) : (ts.length : Int) ∣ a - b := by
  rw [← hp.2, ← per_iff hp.1]
  intro i
  rw [ha (i + (a - b)), show a - (i + (a - b)) = b - i by omega]
  exact (hb i).symm
theorem mir_some {ts : List Str} (hp : Prim ts) {a : Nat} (ha : a < ts.length) (h : MirF (cyc ts) (a : Int)) : mir ts = some a := by
  refine find_first ha ((mirAt_iff ha).mpr h) fun j hj => ?_
  cases e : mirAt ts j with
  | false => rfl
  | true =>
    have z := mir_uniq hp h ((mirAt_iff (by omega)).mp e)
    obtain ⟨q, hq⟩ := z
    exfalso
    have : 0 < q := by
      rcases Int.lt_or_le 0 q with hq0 | hq0
      · exact hq0
      · have := Int.mul_le_mul_of_nonneg_left hq0 (by omega : (0 : Int) ≤ (ts.length : Int))
        omega
    have := Int.mul_le_mul_of_nonneg_left (by omega : (1 : Int) ≤ q) (by omega : (0 : Int) ≤ (ts.length : Int))
    omega
theorem mir_none {ts : List Str} (h : ∀ a, ¬ MirF (cyc ts) a) : mir ts = none := find_none' fun j hj => by
  cases e : mirAt ts j with
  | false => rfl
  | true => exact (h _ ((mirAt_iff hj).mp e)).elim
theorem mir_get {ts : List Str} {a : Nat} (h : mir ts = some a) : a < ts.length ∧ MirF (cyc ts) (a : Int) := by
  have h1 := List.mem_range.mp (List.mem_of_find?_eq_some h)
  have h2 := List.find?_some h
  exact ⟨h1, (mirAt_iff h1).mp h2⟩
theorem mirF_per {c : Int → Str} {a k : Int} (h : MirF c a) (p : Per c k) : MirF c (a + k) := fun i => by
  rw [show a + k - i = (a - i) + k by omega, p]
  exact h i
theorem mir_has {ts : List Str} (hn : 0 < ts.length) {a : Int} (h : MirF (cyc ts) a) : mir ts ≠ none := by
  intro e
  have b1 := Int.emod_nonneg a (b := (ts.length : Int)) (by omega)
  have b2 := Int.emod_lt_of_pos a (b := (ts.length : Int)) (by omega)
  have z : MirF (cyc ts) (a % (ts.length : Int)) := by
    rw [Int.emod_def, Int.sub_eq_add_neg]
    exact mirF_per h (cyc_per.mul _).neg
  have w := List.find?_eq_none.mp e (a % (ts.length : Int)).toNat (List.mem_range.mpr (by omega))
  apply w
  rw [mirAt_iff (by omega), show (((a % (ts.length : Int)).toNat : Nat) : Int) = a % (ts.length : Int) by omega]
  exact z
theorem mir_tr {ts us : List Str} (hu : Prim us) (hl : us.length = ts.length) (g : Int → Int) (h1 : ∀ a, MirF (cyc ts) a → MirF (cyc us) (g a)) (h2 : ∀ b, MirF (cyc us) b → ∃ a, MirF (cyc ts) a) : mir us = (mir ts).map fun (a : Nat) => (g (a : Int) % (ts.length : Int)).toNat := by
  cases e : mir ts with
  | none =>
    refine mir_none fun b hb => ?_
    obtain ⟨a, ha⟩ := h2 b hb
    exact mir_has (by rw [← hl]; exact hu.1) ha e
  | some a =>
    obtain ⟨q1, q2⟩ := mir_get e
    have b1 := Int.emod_nonneg (g a) (b := (ts.length : Int)) (by omega)
    have b2 := Int.emod_lt_of_pos (g a) (b := (ts.length : Int)) (by omega)
    show mir us = some (g (a : Int) % (ts.length : Int)).toNat
    refine mir_some hu (by omega) ?_
    rw [show (((g a % (ts.length : Int)).toNat : Nat) : Int) = g a % (ts.length : Int) by omega, Int.emod_def, Int.sub_eq_add_neg, ← hl]
    exact mirF_per (h1 _ q2) (cyc_per.mul _).neg
/-- moved by -/
def movL (ts : List Str) (by_ : Int) : List Str := (List.range ts.length).map fun (j : Nat) => cyc ts ((j : Int) - by_)
def turL (ts : List Str) : List Str := (List.range ts.length).map fun (j : Nat) => cyc ts (0 - (j : Int))
theorem map_getD {n j : Nat} {f : Nat → Str} (h : j < n) : ((List.range n).map f).getD j default = f j := by
  rw [List.getD_eq_getElem?_getD, List.getElem?_map, List.getElem?_range h]
  rfl
theorem movL_len (ts : List Str) (b : Int) : (movL ts b).length = ts.length := by unfold movL; rw [List.length_map, List.length_range]
theorem turL_len (ts : List Str) : (turL ts).length = ts.length := by unfold turL; rw [List.length_map, List.length_range]
theorem movL_cyc {ts : List Str} (hn : 0 < ts.length) (b i : Int) : cyc (movL ts b) i = cyc ts (i + -b) := by
  have b1 := Int.emod_nonneg i (b := (ts.length : Int)) (by omega)
  have b2 := Int.emod_lt_of_pos i (b := (ts.length : Int)) (by omega)
  have e : cyc (movL ts b) i = (movL ts b).getD (i % (ts.length : Int)).toNat default := by unfold cyc; rw [movL_len]
  rw [e]
  unfold movL
  rw [map_getD (by omega), show (((i % (ts.length : Int)).toNat : Nat) : Int) = i % (ts.length : Int) by omega, Int.emod_def, show i - (ts.length : Int) * (i / (ts.length : Int)) - b = (i + -b) + -((ts.length : Int) * (i / (ts.length : Int))) by omega]
  exact (cyc_per.mul _).neg _
theorem turL_cyc {ts : List Str} (hn : 0 < ts.length) (i : Int) : cyc (turL ts) i = cyc ts (-i) := by
  have b1 := Int.emod_nonneg i (b := (ts.length : Int)) (by omega)
  have b2 := Int.emod_lt_of_pos i (b := (ts.length : Int)) (by omega)
  have e : cyc (turL ts) i = (turL ts).getD (i % (ts.length : Int)).toNat default := by unfold cyc; rw [turL_len]
  rw [e]
  unfold turL
  rw [map_getD (by omega), show (((i % (ts.length : Int)).toNat : Nat) : Int) = i % (ts.length : Int) by omega, Int.emod_def, show 0 - (i - (ts.length : Int) * (i / (ts.length : Int))) = -i + ((ts.length : Int) * (i / (ts.length : Int))) by omega]
  exact (cyc_per.mul _) _
theorem movL_prim {ts : List Str} (h : Prim ts) (b : Int) : Prim (movL ts b) := by
  refine ⟨by rw [movL_len]; exact h.1, ?_⟩
  rw [movL_len, ← h.2]
  exact lr_congr (by rw [movL_len]; exact h.1) h.1 (per_shift (movL_cyc h.1 b))
theorem turL_prim {ts : List Str} (h : Prim ts) : Prim (turL ts) := by
  refine ⟨by rw [turL_len]; exact h.1, ?_⟩
  rw [turL_len, ← h.2]
  exact lr_congr (by rw [turL_len]; exact h.1) h.1 (per_turn (turL_cyc h.1))
theorem mir_mov {ts : List Str} (h : Prim ts) (b : Int) : mir (movL ts b) = (mir ts).map fun (a : Nat) => (((a : Int) + 2 * b) % (ts.length : Int)).toNat := by
  refine mir_tr (movL_prim h b) (movL_len ts b) (fun a => a + 2 * b) (fun a ha i => ?_) (fun a ha => ⟨a - 2 * b, fun i => ?_⟩)
  · rw [movL_cyc h.1, movL_cyc h.1, ha]
    congr 1
    omega
  · have z := ha (i + b)
    rw [movL_cyc h.1, movL_cyc h.1, show i + b + -b = i by omega] at z
    rw [z]
    congr 1
    omega
theorem mir_tur {ts : List Str} (h : Prim ts) : mir (turL ts) = (mir ts).map fun (a : Nat) => ((0 - (a : Int)) % (ts.length : Int)).toNat := by
  refine mir_tr (turL_prim h) (turL_len ts) (fun a => 0 - a) (fun a ha i => ?_) (fun a ha => ⟨0 - a, fun i => ?_⟩)
  · rw [turL_cyc h.1, turL_cyc h.1, ha]
    congr 1
    omega
  · have z := ha (-i)
    rw [turL_cyc h.1, turL_cyc h.1, Int.neg_neg] at z
    rw [z]
    congr 1
    omega
end PL

set_option Elab.async false
set_option linter.all false
/-! the law's own drawing of shades and stripes, as plain functions -/
namespace PL
open PySem PySem.Spec PyProof.Rows L2
/-! ### the pool -/
def poolStep (s : Int × Int) (t : Nat) : Int × Int :=
  ((s.1 % 999999999989 * 69621 + 40503 * (t : Int) + 271) % 999999999989,
   s.2 * 10 ^ (11 : Int).toNat + (s.1 % 999999999989 * 69621 + 40503 * (t : Int) + 271) % 999999999989 * ((s.1 % 999999999989 * 69621 + 40503 * (t : Int) + 271) % 999999999989 % 65537 + 3) % 99999999977)
def poolIt (s0 : Int × Int) : Nat → Int × Int
  | 0 => s0
  | t + 1 => poolStep (poolIt s0 t) t
abbrev e64 : Int := 10 ^ (64 : Int).toNat
def cellV (ns : List Int) (k : Nat) : Int := (cutL ns (some (k : Int)) (some ((k : Int) + 1))).sum
def poolV (c : Int) (k : Nat) : Int := if c < 0 ∨ 10 ^ (18 : Int).toNat ≤ c then (if c < 0 then -c else c) % (e64 * e64 * e64 * e64 * e64 * e64) else (poolIt (c * 48271 + 977 * (k : Int) * (k : Int) + 13, 0) 27).2
/-! ### shades -/
def sgnI (d : Int) : Str := ⟨#[letters.cps.toList.getD d.toNat 0]⟩
def wIt (n : Int) : Nat → Str × Int
  | 0 => ("", n)
  | k + 1 => ((wIt n k).1 ++ sgnI ((wIt n k).2 % 26), (wIt n k).2 / 26)
def lwords : List Str := ["run", "row", "fold", "left", "warp", "weft", "none", "put"]
def wordA (n : Int) : Str × Int := wIt (n / 3) (1 + n % 3).toNat
def wordOf (n : Int) : Str × Int := if (wordA n).2 % 8 = 7 then (cutS (lwords.getD ((wordA n).2 / 8 % 8).toNat default) none (some 3), (wordA n).2 / 8 / 8) else ((wordA n).1, (wordA n).2 / 8)
abbrev letAt (j : Nat) : Str := sgn letters j
def someOf (w : Str) : List Str := [w] ++ (List.range letters.cps.size).map (fun j => cutS w none (some 1) ++ letAt j) ++ (List.range letters.cps.size).map (fun j => letAt j ++ letAt j)
def pick (found : List Str) (w : Str) : Str := ((someOf w).filter fun x => !decide (x ∈ found)).headD default
def shIt (n : Int) : Nat → List Str × Int
  | 0 => ([], n)
  | k + 1 => ((shIt n k).1 ++ [pick (shIt n k).1 (wordOf (shIt n k).2).1], (wordOf (shIt n k).2).2)
/-! ### facts -/
def okW (lo hi : Nat) (x : Str) : Prop := lo ≤ x.cps.size ∧ x.cps.size ≤ hi ∧ ∀ c ∈ x.cps.toList, c ∈ letters.cps.toList
theorem okW_shade {x : Str} (h : okW 1 3 x) : shadeB x = true := by
  obtain ⟨h1, h2, h3⟩ := h
  show ((decide ((1 : Int) ≤ x.cps.size) && decide ((x.cps.size : Int) ≤ 3)) && (List.range x.cps.size).all fun i => decide (x.cps.getD i 0 ∈ letters.cps.toList)) = true
  rw [decide_eq_true (by omega), decide_eq_true (by omega), Bool.true_and, Bool.true_and, List.all_eq_true]
  intro i hi
  have hi' := List.mem_range.mp hi
  apply decide_eq_true
  apply h3
  rw [Array.getD_eq_getD_getElem?, Array.getElem?_eq_getElem hi']
  exact Array.getElem_mem_toList hi'
theorem shade_okW {x : Str} (h : shadeB x = true) : okW 1 3 x := by
  have hl := shade_len h
  have h1 := (Bool.and_eq_true_iff.mp h).2
  rw [List.all_eq_true] at h1
  refine ⟨hl.1, hl.2, fun c hc => ?_⟩
  obtain ⟨i, hi, rfl⟩ := Array.mem_iff_getElem.mp (Array.mem_toList_iff.mp hc)
  have h2 := of_decide_eq_true (h1 i (List.mem_range.mpr hi))
  rw [Array.getD_eq_getD_getElem?, Array.getElem?_eq_getElem hi] at h2
  exact h2
theorem okW_append {a b c d : Nat} {x y : Str} (h : okW a b x) (g : okW c d y) : okW (a + c) (b + d) (x ++ y) := by
  obtain ⟨h1, h2, h3⟩ := h
  obtain ⟨g1, g2, g3⟩ := g
  have e : (x ++ y).cps = x.cps ++ y.cps := rfl
  refine ⟨?_, ?_, fun c hc => ?_⟩
  · rw [e, Array.size_append]; omega
  · rw [e, Array.size_append]; omega
  · rw [e, Array.toList_append] at hc
    rcases List.mem_append.mp hc with z | z
    · exact h3 c z
    · exact g3 c z
theorem letters_len : letters.cps.toList.length = 26 := by decide +kernel
theorem letters_size : letters.cps.size = 26 := by decide +kernel
theorem sgnI_ok {d : Int} (h0 : 0 ≤ d) (h1 : d < 26) : okW 1 1 (sgnI d) := by
  refine ⟨Nat.le_refl _, Nat.le_refl _, fun c hc => ?_⟩
  have e : c = letters.cps.toList.getD d.toNat 0 := List.mem_singleton.mp hc
  rw [e, List.getD_eq_getElem?_getD, List.getElem?_eq_getElem (by rw [letters_len]; omega)]
  exact List.getElem_mem _
theorem letAt_ok {j : Nat} (h : j < letters.cps.size) : okW 1 1 (letAt j) := by
  refine ⟨Nat.le_refl _, Nat.le_refl _, fun c hc => ?_⟩
  have e : c = letters.cps.getD j 0 := List.mem_singleton.mp hc
  rw [e, Array.getD_eq_getD_getElem?, Array.getElem?_eq_getElem h]
  exact Array.getElem_mem_toList _
theorem wIt_ok (n : Int) : ∀ k, okW k k (wIt n k).1
  | 0 => ⟨Nat.le_refl _, Nat.le_refl _, fun c hc => by cases hc⟩
  | k + 1 => okW_append (wIt_ok n k) (sgnI_ok (Int.emod_nonneg _ (by decide)) (Int.emod_lt_of_pos _ (by decide)))
theorem lwords_ok : ∀ j : _root_.Fin 8, shadeB (cutS (lwords.getD j.val default) none (some 3)) = true ∧ (lwords.getD j.val default).length ≤ 10 := by decide +kernel
theorem lwords_at {d : Int} (h0 : 0 ≤ d) (h1 : d < 8) : shadeB (cutS (lwords.getD d.toNat default) none (some 3)) = true ∧ (lwords.getD d.toNat default).length ≤ 10 := lwords_ok ⟨d.toNat, by omega⟩
theorem wordOf_ok (n : Int) : okW 1 3 (wordOf n).1 := by
  unfold wordOf
  split
  · exact shade_okW (lwords_at (Int.emod_nonneg _ (by decide)) (Int.emod_lt_of_pos _ (by decide))).1
  · have h := wIt_ok (n / 3) (1 + n % 3).toNat
    have a := Int.emod_nonneg n (b := 3) (by decide)
    have b := Int.emod_lt_of_pos n (b := 3) (by decide)
    exact ⟨Nat.le_trans (by omega) h.1, Nat.le_trans h.2.1 (by omega), h.2.2⟩
theorem cut1_ok {w : Str} (h : okW 1 3 w) : okW 1 1 (cutS w none (some 1)) := by
  obtain ⟨h1, h2, h3⟩ := h
  have e : (cutS w none (some 1)).cps.toList = w.cps.toList.take 1 := by
    show ((w.cps.toList.drop (HT.sIx w.length 0 none)).take (HT.sIx w.length w.length (some ((1 : Nat) : Int)) - HT.sIx w.length 0 none)) = _
    rw [HT.sIx_nat, HT.sIx_none, List.drop_zero, Nat.sub_zero]
    rw [show min 1 w.length = 1 from Nat.min_eq_left h1]
  have sz : (cutS w none (some 1)).cps.size = 1 := by
    rw [← Array.length_toList, e, List.length_take, Array.length_toList]; omega
  refine ⟨by omega, by omega, fun c hc => ?_⟩
  rw [e] at hc
  exact h3 c (List.mem_of_mem_take hc)
theorem someOf_ok {w : Str} (h : okW 1 3 w) : ∀ x ∈ someOf w, okW 1 3 x := by
  intro x hx
  unfold someOf at hx
  rcases List.mem_append.mp hx with hx | hx
  · rcases List.mem_append.mp hx with hx | hx
    · rw [List.mem_singleton.mp hx]; exact h
    · obtain ⟨j, hj, rfl⟩ := List.mem_map.mp hx
      have z := okW_append (cut1_ok h) (letAt_ok (List.mem_range.mp hj))
      exact ⟨Nat.le_trans (by decide) z.1, Nat.le_trans z.2.1 (by decide), z.2.2⟩
  · obtain ⟨j, hj, rfl⟩ := List.mem_map.mp hx
    have z := okW_append (letAt_ok (List.mem_range.mp hj)) (letAt_ok (List.mem_range.mp hj))
    exact ⟨Nat.le_trans (by decide) z.1, Nat.le_trans z.2.1 (by decide), z.2.2⟩
theorem nodup_le {α : Type} [DecidableEq α] : ∀ (xs ys : List α), xs.Nodup → (∀ x ∈ xs, x ∈ ys) → xs.length ≤ ys.length
  | [], _, _, _ => Nat.zero_le _
  | x :: r, ys, hn, h => by
    obtain ⟨h1, h2⟩ := List.nodup_cons.mp hn
    have hx := h x (List.mem_cons_self ..)
    have z := nodup_le r (ys.erase x) h2 fun y hy => (List.mem_erase_of_ne (fun e : y = x => h1 (e ▸ hy))).mpr (h y (List.mem_cons_of_mem _ hy))
    rw [List.length_erase_of_mem hx] at z
    have := List.length_pos_of_mem hx
    rw [List.length_cons]; omega
theorem dbl_nodup : ((List.range letters.cps.size).map fun j => letAt j ++ letAt j).Nodup := by decide +kernel
theorem some_ne {found : List Str} (hf : found.length < 26) (w : Str) : ((someOf w).filter fun x => !decide (x ∈ found)) ≠ [] := by
  intro e
  rw [List.filter_eq_nil_iff] at e
  have z := nodup_le _ found dbl_nodup fun x hx => by
    have q := e x (List.mem_append_right _ hx)
    simpa using q
  rw [List.length_map, List.length_range, letters_size] at z
  omega
theorem pick_at {found : List Str} (hf : found.length < 26) (w : Str) : atI ((someOf w).filter fun x => !decide (x ∈ found)) 0 = some (pick found w) := by
  have z := some_ne hf w
  unfold pick
  cases e : (someOf w).filter fun x => !decide (x ∈ found) with
  | nil => exact absurd e z
  | cons x r =>
    show atI (x :: r) 0 = some x
    unfold atI ixN
    rw [if_pos (Int.le_refl 0), List.length_cons, if_pos (by omega)]
    rfl
theorem pick_ok {found : List Str} (hf : found.length < 26) {w : Str} (h : okW 1 3 w) : okW 1 3 (pick found w) := by
  have z := some_ne hf w
  unfold pick
  cases e : (someOf w).filter fun x => !decide (x ∈ found) with
  | nil => exact absurd e z
  | cons x r =>
    have q : x ∈ (someOf w).filter fun x => !decide (x ∈ found) := by rw [e]; exact List.mem_cons_self ..
    exact someOf_ok h x (List.mem_filter.mp q).1
theorem shIt_ok (n : Int) : ∀ k, k ≤ 20 → (shIt n k).1.length = k ∧ ∀ x ∈ (shIt n k).1, okW 1 3 x
  | 0, _ => ⟨rfl, fun x hx => by cases hx⟩
  | k + 1, hk => by
    obtain ⟨h1, h2⟩ := shIt_ok n k (by omega)
    refine ⟨?_, fun x hx => ?_⟩
    · show ((shIt n k).1 ++ [_]).length = _
      rw [List.length_append, h1]; rfl
    · rcases List.mem_append.mp hx with z | z
      · exact h2 x z
      · rw [List.mem_singleton.mp z]
        exact pick_ok (by omega) (wordOf_ok _)
/-! ### stripes -/
def drIt (sh : List Str) (wide n : Int) : Nat → List (Str × Int) × Int
  | 0 => ([], n)
  | k + 1 => ((drIt sh wide n k).1 ++ [(sh.getD ((drIt sh wide n k).2 % (sh.length : Int)).toNat default, 1 + (drIt sh wide n k).2 / (sh.length : Int) % wide)], (drIt sh wide n k).2 / (sh.length : Int) / wide)
theorem drIt_ok {sh : List Str} {wide : Int} (n : Int) (h0 : 0 < sh.length) (hw : 0 < wide) : ∀ k, (drIt sh wide n k).1.length = k ∧ ∀ p ∈ (drIt sh wide n k).1, p.1 ∈ sh ∧ 1 ≤ p.2 ∧ p.2 ≤ wide
  | 0 => ⟨rfl, fun x hx => by cases hx⟩
  | k + 1 => by
    obtain ⟨h1, h2⟩ := drIt_ok n h0 hw k
    refine ⟨?_, fun x hx => ?_⟩
    · show ((drIt sh wide n k).1 ++ [_]).length = _
      rw [List.length_append, h1]; rfl
    · rcases List.mem_append.mp hx with z | z
      · exact h2 x z
      · rw [List.mem_singleton.mp z]
        have a := Int.emod_nonneg (drIt sh wide n k).2 (b := (sh.length : Int)) (by omega)
        have b := Int.emod_lt_of_pos (drIt sh wide n k).2 (b := (sh.length : Int)) (by omega)
        have c := Int.emod_nonneg ((drIt sh wide n k).2 / (sh.length : Int)) (b := wide) (by omega)
        have d := Int.emod_lt_of_pos ((drIt sh wide n k).2 / (sh.length : Int)) (b := wide) (by omega)
        refine ⟨?_, ?_, ?_⟩
        · show sh.getD _ default ∈ sh
          rw [List.getD_eq_getElem?_getD, List.getElem?_eq_getElem (by omega)]
          exact List.getElem_mem _
        · show (1 : Int) ≤ 1 + _
          omega
        · show 1 + _ ≤ wide
          omega
theorem tot_le {ps : List (Str × Int)} {wide : Int} (h : ∀ p ∈ ps, p.2 ≤ wide) : tot ps ≤ (ps.length : Int) * wide := by
  induction ps with
  | nil => rw [show ((([] : List (Str × Int)).length : Nat) : Int) = 0 from rfl, Int.zero_mul]; exact Int.le_refl _
  | cons p r ih =>
    have z := ih fun q hq => h q (List.mem_cons_of_mem _ hq)
    have e : tot (p :: r) = p.2 + tot r := by unfold tot; rw [List.map_cons, List.sum_cons]
    have hp := h p (List.mem_cons_self ..)
    rw [e, List.length_cons, Int.natCast_succ, Int.add_mul, Int.one_mul]
    omega
theorem tot_app (ps qs : List (Str × Int)) : tot (ps ++ qs) = tot ps + tot qs := by unfold tot; rw [List.map_append, List.sum_append]
theorem thr_app (ps qs : List (Str × Int)) : thr (ps ++ qs) = thr ps ++ thr qs := by unfold thr; rw [List.flatMap_append]
/-! ### what is laid -/
structure Laid where
  ps : List (Str × Int)
  m : Mnr
  st : Int
  n : Int
def mnrs : List Mnr := [.run, .pivot, .fold, .left, .right]
def shN (n : Int) : Nat := [1, 2, 2, 3, 4].getD (n % 5).toNat 0
def shs (n : Int) : List Str × Int := shIt (n / 5) (shN n)
def mostOf (b : Bool) : Int := if b then 12 else 4
def wideOf (b : Bool) : Int := if b then 20 else 3
def drawn (sh : List Str) (most wide n : Int) : List (Str × Int) × Int := drIt sh wide (n / most) (1 + n % most).toNat
abbrev e30 : Int := 10 ^ (30 : Int).toNat
def stOf (n : Int) : Int := if n / 30 / 30 / e30 % 4 = 0 then 0 else if n / 30 / 30 / e30 % 4 = 1 then n % 30 else if n / 30 / 30 / e30 % 4 = 2 then 0 - n / 30 % 30 else n / 30 / 30 % e30
def stN (n : Int) : Int := n / 30 / 30 / e30 / 4
end PL

set_option Elab.async false
set_option linter.all false
set_option maxRecDepth 100000
set_option maxHeartbeats 1000000
namespace Hd
open PySem PySem.Spec PyProof.Rows L2 PL
section
variable {Pg : Program} {w : World} {K : PySem.W.Frag} {mg : Str → Option Value} {base : Heap}
theorem atI_ok {α : Type} {xs : List α} {i : Int} {d : α} (h0 : 0 ≤ i) (h1 : i < xs.length) : atI xs i = some (xs.getD i.toNat d) := by
  unfold atI ixN
  rw [if_pos h0, if_pos (by omega)]
  show xs[i.toNat]? = _
  rw [List.getD_eq_getElem?_getD, List.getElem?_eq_getElem (by omega)]
  rfl
theorem _root_.PL.OkSt.pos {ps : List (Str × Int)} (h : OkSt ps) : ∀ p ∈ ps, 0 < p.2 := fun p hp => (h.ok p hp).2
theorem _root_.PL.OkSt.len {ps : List (Str × Int)} (h : OkSt ps) : 0 < (thr ps).length ∧ (thr ps).length ≤ 240 := by
  have h1 := thr_len h.pos
  have h2 := h.le
  cases ps with
  | nil => exact absurd rfl h.ne
  | cons p r =>
    have h3 := h.pos p (List.mem_cons_self ..)
    have h4 := tot_nonneg (ps := r) fun q hq => h.pos q (List.mem_cons_of_mem _ hq)
    have h5 : tot (p :: r) = p.2 + tot r := by unfold tot; rw [List.map_cons, List.sum_cons]
    omega
/-! ### the law's own helpers -/
def P_take : Ob → List D → Rs → Ob → Prop := fun o ds r o' => ∃ n m : Int, 0 < m ∧ m ≤ 10 ^ 40 ∧ o = .lst [.int n] ∧ ds = [.int m] ∧ r = .sh (.int (n % m)) ∧ o' = .lst [.int (n / m)]
theorem cdivp_small {n m : Int} (h0 : 0 < m) (h1 : m ≤ 10 ^ 40) : CDivP n m := by
  refine ⟨h0, ?_⟩
  show (decide ((if m == 0 then 0 else m.natAbs.log2 / 30 + 1) > 300) && decide ((if n == 0 then 0 else n.natAbs.log2 / 30 + 1) > (if m == 0 then 0 else m.natAbs.log2 / 30 + 1) + 150)) = false
  rw [if_neg (show ¬ (m == 0) = true by simpa using (show m ≠ 0 by omega))]
  have h2 : m.natAbs.log2 < 200 := by
    rw [Nat.log2_lt (by omega)]
    have : (10 : Int) ^ 40 < 2 ^ 200 := by decide +kernel
    have e : ((2 : Nat) ^ 200 : Nat) = ((2 : Int) ^ 200) := by decide +kernel
    omega
  rw [decide_eq_false (by omega)]
  rfl
theorem c_take (Dd : Df K mg "_law_take" s__law_take []) (T : Bt mg) : C1 Pg w K mg base "_law_take" 1 ["_law_pool_here", "_law_many"] P_take := by
  refine c1_mk (k := 0) Dd sc__law_take (fun _ _ _ _ _ _ us hl => match us, hl with | [_, _], _ => rfl) (by decide) (fun o ds r o' => ?_) (fun f cd A outer s H E g o ds r o' => ?_)
  · rintro ⟨n, m, h0, h1, rfl, rfl, rfl, rfl⟩
    exact ⟨rfl, fun _ z => by cases z⟩
  · rintro ⟨n, m, h0, h1, rfl, rfl, rfl, rfl⟩ p
    refine ⟨_, .inl (s_cons (s1_asg (g_tup g.calm (gs_cons (g_setix (n := 0) (s := .pr p (.lst [.int n])) (ix := 0) (j := 0) has_pr e_int rfl) (gs_cons (g_name 2 g.nd) gs_nil))) (e_callB (c_divmod (cdivp_small h0 h1)) T.divmod b_divmod (a_cons (e_ro (e_ix (e_var 0) e_int (i_list (d := .int n) rfl)) trivial) (a_cons (e_var 1) a_nil)))) (s_one (s1_ret (e_var 2)))), rfl⟩
def P_pool : List D → Rs → Prop := fun ds r => ∃ ns k, k < 1000 ∧ ds = [.fls (ns.map D.int), .int (k : Nat)] ∧ r = .ow (.lst [.int (poolV (cellV ns k) k)])
theorem cpow10 {j : Int} (h0 : 0 ≤ j) (h1 : j ≤ 1000) : CPow 10 j := ⟨h0, by omega, by decide⟩
theorem c_pool (Dd : Df K mg "_law_pool" s__law_pool []) (T : Bt mg) : C0 Pg w K mg base "_law_pool" 1 ["_law_script", "_law_k"] P_pool := by
  refine c0_mk (k := 0) Dd sc__law_pool (fun _ _ _ _ _ _ us hl => match us, hl with | [_, _], _ => rfl) (by decide) (fun ds r => ?_) (fun f cd A outer s H E g ds r => ?_)
  · rintro ⟨ns, k, hk, rfl, rfl⟩
    exact ⟨rfl, fun _ z => by cases z⟩
  · rintro ⟨ns, k, hk, rfl, rfl⟩
    have key : ∀ c, c = cellV ns k → D.int ((cutL ns (some (k : Int)) (some ((k : Int) + 1))).sum) = .int c := fun c e => by rw [e]; rfl
    generalize hc : cellV ns k = c at key
    have key := key c rfl
    by_cases h : c < 0 ∨ 10 ^ (18 : Int).toNat ≤ c
    · refine ends_eq (ends_rt (s_cons (s1_set 2 g.nd (e_eq (e_callB (c_sum (ns := cutL ns (some (k : Int)) (some ((k : Int) + 1))) g.calm) T.sum b_sum (a_cons (e_fz (e_eq (e_slice l_fls (e_var 0) (p_some (e_var 1)) (p_some (e_bin o_addI (e_var 1) e_int))) (by rw [cut_map]))) a_nil)) (congrArg Rs.sh key)))
        (s_ifTE (t_eq (t_w (w_or (t_cmp o_lt (e_var 2) e_int) fun h => (w_or1 (t_cmp o_ge (e_var 2) (e_bin (o_pow (cpow10 (by decide) (by decide))) e_int e_int))))) ?_)
          (s_one (s1_ret (e_lst (a_cons (e_bin (o_mod ?_) (e_callB c_abs T.abs b_abs (a_cons (e_var 2) a_nil)) (e_bin (o_mulW ?_) (e_bin (o_mulW ?_) (e_bin (o_mulW ?_) (e_bin (o_mulW ?_) (e_bin (o_mulW ?_) (e_bin (o_pow (cpow10 (by decide) (by decide))) e_int e_int) (e_bin (o_pow (cpow10 (by decide) (by decide))) e_int e_int)) (e_bin (o_pow (cpow10 (by decide) (by decide))) e_int e_int)) (e_bin (o_pow (cpow10 (by decide) (by decide))) e_int e_int)) (e_bin (o_pow (cpow10 (by decide) (by decide))) e_int e_int)) (e_bin (o_pow (cpow10 (by decide) (by decide))) e_int e_int))) a_nil))))))) ?_
      · show (decide (c < 0) || decide (10 ^ (18 : Int).toNat ≤ c)) = true
        rcases h with h | h
        · rw [decide_eq_true h]; rfl
        · rw [decide_eq_true h, Bool.or_true]
      · decide +kernel
      · unfold CMulW; decide +kernel
      · unfold CMulW; decide +kernel
      · unfold CMulW; decide +kernel
      · unfold CMulW; decide +kernel
      · unfold CMulW; decide +kernel
      · unfold poolV
        rw [if_pos h]
    · have h1 : ¬ c < 0 := fun z => h (.inl z)
      have h2 : ¬ 10 ^ (18 : Int).toNat ≤ c := fun z => h (.inr z)
      refine ends_eq (ends_rt (s_cons (s1_set 2 g.nd (e_eq (e_callB (c_sum (ns := cutL ns (some (k : Int)) (some ((k : Int) + 1))) g.calm) T.sum b_sum (a_cons (e_fz (e_eq (e_slice l_fls (e_var 0) (p_some (e_var 1)) (p_some (e_bin o_addI (e_var 1) e_int))) (by rw [cut_map]))) a_nil)) (congrArg Rs.sh key)))
        (s_ifN (t_eq (t_w (w_or (t_cmp o_lt (e_var 2) e_int) fun h => (w_or1 (t_cmp o_ge (e_var 2) (e_bin (o_pow (cpow10 (by decide) (by decide))) e_int e_int))))) ?_)
        (s_cons (s1_set 3 g.nd (e_bin o_addI (e_bin o_addI (e_bin (o_mulI (.inr (by decide))) (e_var 2) e_int) (e_bin (o_mulI (i := 977 * (k : Int)) (j := (k : Int)) (.inr (by omega))) (e_bin (o_mulI (.inl (by decide))) e_int (e_var 1)) (e_var 1))) e_int))
        (s_cons (s1_set 4 g.nd e_int)
        (s_cons (s1_for g (it_range1 T.range (a_cons e_int a_nil) (by decide) (by decide)) (fun j => [.sh (.fls (ns.map D.int)), .sh (.int (k : Nat)), .sh (.int c), .sh (.int (poolIt (c * 48271 + 977 * (k : Int) * (k : Int) + 13, 0) j).1), .sh (.int (poolIt (c * 48271 + 977 * (k : Int) * (k : Int) + 13, 0) j).2), .un])
            (fun j => [.sh (.fls (ns.map D.int)), .sh (.int (k : Nat)), .sh (.int c), .sh (.int (poolIt (c * 48271 + 977 * (k : Int) * (k : Int) + 13, 0) j).1), .sh (.int (poolIt (c * 48271 + 977 * (k : Int) * (k : Int) + 13, 0) j).2), .sh (.int (j : Nat))]) .refl (fun j hj => g_name 5 g.nd) (fun j hj => .inl ?_))
        (s_one (s1_ret (e_lst (a_cons (e_var 4) a_nil)))))))))) ?_
      · show (decide (c < 0) || decide (10 ^ (18 : Int).toNat ≤ c)) = false
        rw [decide_eq_false h1, decide_eq_false h2]; rfl
      · have e : poolIt (c * 48271 + 977 * (k : Int) * (k : Int) + 13, 0) (j + 1) = poolStep (poolIt (c * 48271 + 977 * (k : Int) * (k : Int) + 13, 0) j) j := rfl
        rw [e]
        generalize poolIt (c * 48271 + 977 * (k : Int) * (k : Int) + 13, 0) j = q
        have h65 := Int.emod_nonneg ((q.1 % 999999999989 * 69621 + 40503 * (j : Int) + 271) % 999999999989) (b := 65537) (by decide)
        have h66 := Int.emod_lt_of_pos ((q.1 % 999999999989 * 69621 + 40503 * (j : Int) + 271) % 999999999989) (b := 65537) (by decide)
        refine s_wk (s_cons (s1_set 3 g.nd (e_bin (o_mod (by decide)) (e_bin o_addI (e_bin o_addI (e_bin (o_mulI (.inr (by decide))) (e_bin (o_mod (by decide)) (e_var 3) e_int) e_int) (e_bin (o_mulI (.inl (by decide))) e_int (e_var 5))) e_int) e_int))
          (s_one (s1_set 4 g.nd (e_bin o_addI (e_bin (o_mulI (.inr (by decide))) (e_var 4) (e_bin (o_pow (cpow10 (by decide) (by decide))) e_int e_int)) (e_bin (o_mod (by decide)) (e_bin (o_mulI (i := (q.1 % 999999999989 * 69621 + 40503 * (j : Int) + 271) % 999999999989) (j := (q.1 % 999999999989 * 69621 + 40503 * (j : Int) + 271) % 999999999989 % 65537 + 3) (.inr (by omega))) (e_var 3) (e_bin o_addI (e_bin (o_mod (by decide)) (e_var 3) e_int) e_int)) e_int))))) ?_
        exact Wk.cv (.keep (.keep (.keep (.keep (.keep (.drop .nil))))))
      · unfold poolV
        rw [if_neg h]
        rfl
end
end Hd

set_option Elab.async false
set_option linter.all false
set_option maxRecDepth 100000
set_option maxHeartbeats 1000000
namespace Hd
open PySem PySem.Spec PyProof.Rows L2 PL
section
variable {Pg : Program} {w : World} {K : PySem.W.Frag} {mg : Str → Option Value} {base : Heap}
theorem took_filter (p : Str → Bool) (xs : List Str) : took (fun j => p (xs.getD j default)) (itd (xs.map D.str)) (xs.map D.str).length = (xs.filter p).map D.str := by
  have e : xs = (List.range xs.length).map fun j => xs.getD j default := by
    refine ext_getD (by rw [List.length_map, List.length_range]) fun j hj => ?_
    rw [map_getD hj]
  unfold took
  conv => rhs; rw [e]
  rw [List.length_map, List.filter_map, List.map_map]
  apply List.map_congr_left
  intro j hj
  have hj' := List.mem_range.mp (List.mem_filter.mp hj).1
  rw [itd_map D.str xs j hj', Function.comp_apply, List.getD_eq_getElem?_getD, List.getElem?_eq_getElem hj']
  rfl
def P_shades : Ob → List D → Rs → Ob → Prop := fun o ds r o' => ∃ n k, k ≤ 20 ∧ o = .lst [.int n] ∧ ds = [.int (k : Nat)] ∧ r = .sh (dL (shIt n k).1) ∧ o' = .lst [.int (shIt n k).2]
theorem atI_sgn {d : Int} (h0 : 0 ≤ d) (h1 : d < 26) : atI letters.cps.toList d = some (letters.cps.toList.getD d.toNat 0) := atI_ok h0 (by rw [letters_len]; exact h1)
theorem small_str {x : Str} {lo hi : Nat} (h : okW lo hi x) (hh : hi ≤ 100) : x.length ≤ 100 := Nat.le_trans h.2.1 hh
theorem line100 : (200 : Nat) < sizeLine := by decide
theorem someOf_len (w : Str) : (someOf w).length ≤ 100 := by
  unfold someOf
  rw [List.length_append, List.length_append, List.length_map, List.length_map, List.length_range, letters_size]
  show 1 + 26 + 26 ≤ 100
  decide
theorem c_shades (Dd : Df K mg "_law_some_shades" s__law_some_shades []) (T : Bt mg) (G_take : C1 Pg w K mg base "_law_take" 1 ["_law_pool_here", "_law_many"] P_take) : C1 Pg w K mg base "_law_some_shades" 2 ["_law_pool_here", "_law_many"] P_shades := by
  refine c1_mk (k := 1) Dd sc__law_some_shades (fun _ _ _ _ _ _ us hl => match us, hl with | [_, _], _ => rfl) (by decide) (fun o ds r o' => ?_) (fun f cd A outer s H E g o ds r o' => ?_)
  · rintro ⟨n, k, hk, rfl, rfl, rfl, rfl⟩
    exact ⟨rfl, fun _ z => by cases z⟩
  · rintro ⟨n, k, hk, rfl, rfl, rfl, rfl⟩ p
    have hz := line100
    refine ⟨_, .inl (s_cons (s1_set 2 g.nd (e_fz (e_lst (a_cons e_str (a_cons e_str (a_cons e_str (a_cons e_str (a_cons e_str (a_cons e_str (a_cons e_str (a_cons e_str a_nil))))))))))) (s_cons (s1_set 3 g.nd (e_lst a_nil))
      (s_cons (s1_for g (it_range1 (j := (k : Int)) T.range (a_cons (e_var 1) a_nil) (by omega) (by omega)) (fun j => [.pr p (.lst [.int (shIt n j).2]), .sh (.int (k : Nat)), .sh (dL lwords), .ow (.lst ((shIt n j).1.map .str)), .un, .un, .un, .un, .un, .un, .un, .un])
        (fun j => [.pr p (.lst [.int (shIt n j).2]), .sh (.int (k : Nat)), .sh (dL lwords), .ow (.lst ((shIt n j).1.map .str)), .sh (.int (j : Nat)), .un, .un, .un, .un, .un, .un, .un]) .refl (fun j hj => g_name 4 g.nd) (fun j hj => .inl ?_))
      (s_one (s1_retO 3 (ob := .lst ((shIt n k).1.map .str)) rfl))))), rfl⟩
    have hj' : j < 20 := by omega
    obtain ⟨hlen, hfs⟩ := shIt_ok n j (by omega)
    have e : shIt n (j + 1) = ((shIt n j).1 ++ [pick (shIt n j).1 (wordOf (shIt n j).2).1], (wordOf (shIt n j).2).2) := rfl
    rw [e]
    generalize (shIt n j).1 = fs at hlen hfs
    generalize (shIt n j).2 = q
    have hok := wordOf_ok q
    have hwa : wordA q = wIt (q / 3) (1 + q % 3).toNat := rfl
    have b3 := Int.emod_nonneg q (b := 3) (by decide)
    have b4 := Int.emod_lt_of_pos q (b := 3) (by decide)
    refine s_cons (s1_asg (g_tup g.calm (gs_cons (g_name 5 g.nd) (gs_cons (g_name 6 g.nd) gs_nil))) (e_tup (a_cons (e_bin o_addI e_int (e_c1 0 G_take g has_pr (a_cons e_int a_nil) has_pr ⟨q, 3, by decide, by decide, rfl, rfl, rfl, rfl⟩)) (a_cons e_str a_nil)))) ?_
    refine s_cons (s1_for g (it_range1 (j := 1 + q % 3) T.range (a_cons (e_var 5) a_nil) (by omega) (by omega)) (fun i => [.pr p (.lst [.int (wIt (q / 3) i).2]), .sh (.int (k : Nat)), .sh (dL lwords), .ow (.lst (fs.map .str)), .sh (.int (j : Nat)), .sh (.int (1 + q % 3)), .sh (.str (wIt (q / 3) i).1), .un, .un, .un, .un, .un])
        (fun i => [.pr p (.lst [.int (wIt (q / 3) i).2]), .sh (.int (k : Nat)), .sh (dL lwords), .ow (.lst (fs.map .str)), .sh (.int (j : Nat)), .sh (.int (1 + q % 3)), .sh (.str (wIt (q / 3) i).1), .sh (.int (i : Nat)), .un, .un, .un, .un]) .refl (fun i hi => g_name 7 g.nd) (fun i hi => .inl ?_)) ?_
    · have ei : wIt (q / 3) (i + 1) = ((wIt (q / 3) i).1 ++ sgnI ((wIt (q / 3) i).2 % 26), (wIt (q / 3) i).2 / 26) := rfl
      rw [ei]
      have ho := wIt_ok (q / 3) i
      generalize (wIt (q / 3) i).1 = x at ho
      generalize (wIt (q / 3) i).2 = y
      have b1 := Int.emod_nonneg y (b := 26) (by decide)
      have b2 := Int.emod_lt_of_pos y (b := 26) (by decide)
      have l1 : x.length ≤ 100 := small_str ho (by omega)
      refine s_wk (s_one (s1_set 6 g.nd (e_bin (o_addS (a := x) (b := sgnI (y % 26)) (by show x.length + 1 ≤ _; omega)) (e_var 6) (e_ix e_str (e_c1 0 G_take g has_pr (a_cons e_int a_nil) has_pr ⟨y, 26, by decide, by decide, rfl, rfl, rfl, rfl⟩) (i_str (a := letters) (by show letters.cps.size ≤ _; rw [letters_size]; omega) (atI_sgn b1 b2)))))) ?_
      exact Wk.cv (.keep (.keep (.keep (.keep (.keep (.keep (.keep (.drop (.keep (.keep (.keep (.keep .nil))))))))))))
    · rw [← hwa]
      have hw3 : okW 1 3 (wordA q).1 := by
        have h := wIt_ok (q / 3) (1 + q % 3).toNat
        exact ⟨Nat.le_trans (by omega) h.1, Nat.le_trans h.2.1 (by omega), h.2.2⟩
      refine s_cons (Γ1 := [.pr p (.lst [.int (wordOf q).2]), .sh (.int (k : Nat)), .sh (dL lwords), .ow (.lst (fs.map .str)), .sh (.int (j : Nat)), .sh (.int (1 + q % 3)), .sh (.str (wordOf q).1), .un, .un, .un, .un, .un]) ?_ ?_
      · have c1 := Int.emod_nonneg ((wordA q).2 / 8) (b := 8) (by decide)
        have c2 := Int.emod_lt_of_pos ((wordA q).2 / 8) (b := 8) (by decide)
        by_cases h7 : (wordA q).2 % 8 = 7
        · have e7 : wordOf q = (cutS (lwords.getD ((wordA q).2 / 8 % 8).toNat default) none (some 3), (wordA q).2 / 8 / 8) := by unfold wordOf; rw [if_pos h7]
          rw [e7]
          exact s1_ifT (t_eq (t_cmp o_eqI (e_c1 0 G_take g has_pr (a_cons e_int a_nil) has_pr ⟨_, 8, by decide, by decide, rfl, rfl, rfl, rfl⟩) e_int) (decide_eq_true h7)) (s_one (s1_set 6 g.nd (e_slice (l_str (Nat.le_trans (lwords_at c1 c2).2 (by omega))) (e_ix (e_var 2) (e_c1 0 G_take g has_pr (a_cons e_int a_nil) has_pr ⟨_, 8, by decide, by decide, rfl, rfl, rfl, rfl⟩) (i_dL (atI_ok (d := default) c1 (by exact c2)))) p_none (p_some e_int))))
        · have e7 : wordOf q = ((wordA q).1, (wordA q).2 / 8) := by unfold wordOf; rw [if_neg h7]
          rw [e7]
          exact s1_ifF (t_eq (t_cmp o_eqI (e_c1 0 G_take g has_pr (a_cons e_int a_nil) has_pr ⟨_, 8, by decide, by decide, rfl, rfl, rfl, rfl⟩) e_int) (decide_eq_false h7)) s_nil
      · generalize (wordOf q).1 = v at hok
        generalize (wordOf q).2 = u
        have lv := small_str hok (by decide)
        have lc : (cutS v none (some 1)).length ≤ 100 := small_str (cut1_ok hok) (by decide)
        have ls := letters_size
        have hsl := someOf_len v
        refine s_wk (s_cons (s1_set 8 g.nd e_str) (s_cons (s1_set 9 (r := .sh (dL (someOf v))) g.nd (e_fz (e_bin (o_dLcat (xs := [v] ++ (List.range letters.cps.size).map (fun j => cutS v none (some 1) ++ letAt j)) (ys := (List.range letters.cps.size).map fun j => letAt j ++ letAt j) ?_)
          (e_fz (e_bin (o_dLcat (xs := [v]) (ys := (List.range letters.cps.size).map (fun j => cutS v none (some 1) ++ letAt j)) ?_) (e_fz (e_lst (a_cons (e_var 6) a_nil)))
            (e_fz (e_eq (e_lc1 10 (fun j => .str (cutS v none (some 1) ++ letAt j)) g (it_str (x := letters) (e_var 8)) (by omega) (blkOk_by (N := N__law_some_shades) (sc := defScope s__law_some_shades) (by decide +kernel)) rfl
              (fun j hj s1 H1 C1 cl fp => e_bin (o_addS (by show _ + 1 ≤ _; omega)) (e_slice (l_str (by omega)) (e_var 6) p_none (p_some e_int)) (e_var 10))) (by rw [List.map_map]; rfl)))))
            (e_fz (e_eq (e_lc1 10 (fun j => .str (letAt j ++ letAt j)) g (it_str (x := letters) (e_var 8)) (by omega) (blkOk_by (N := N__law_some_shades) (sc := defScope s__law_some_shades) (by decide +kernel)) rfl
              (fun j hj s1 H1 C1 cl fp => e_bin (o_addS (by show 1 + 1 ≤ _; omega)) (e_var 10) (e_var 10))) (by rw [List.map_map]; rfl))))))
          (s_one (s1_expr (e_append (i := 3) (e_ix (e_fz (e_eq (e_lc g (lcIf (t := fun j => !decide ((someOf v).getD j default ∈ fs)) (f := itd ((someOf v).map D.str)) 11 g (it_list (ds := (someOf v).map D.str) (e_var 9)) ?_ (blkOk_by (N := N__law_some_shades) (sc := defScope s__law_some_shades) (by decide +kernel)) rfl (fun j hj s1 H1 C1 cl fp => ?_) (fun j hj _ s1 H1 C1 cl fp => e_var 11))) (congrArg (fun l => Rs.ow (Ob.lst l)) (took_filter (fun x => !decide (x ∈ fs)) (someOf v))))) e_int (i_dL (pick_at (by omega) v))) ⟨_, _, has_ow, _, rfl⟩ has_ow ?_))))) ?_
        · rw [List.length_append, List.length_map, List.length_map, List.length_range, ls]
          show 1 + 26 + 26 ≤ _
          omega
        · rw [List.length_map, List.length_range, ls]
          show 1 + 26 ≤ _
          omega
        · rw [List.length_map]; omega
        · have hj2 : j < (someOf v).length := by simpa using hj
          rw [itd_map D.str (someOf v) j hj2, List.getD_eq_getElem?_getD, List.getElem?_eq_getElem hj2]
          exact t_ro (t_cmp o_ninL (e_var 11) (e_var 3))
        · rw [List.length_map]; omega
        · show Cv K [.pr p (.lst [.int u]), .sh (.int (k : Nat)), .sh (dL lwords), .ow (.lst (fs.map .str ++ [.str (pick fs v)])), .sh (.int (j : Nat)), .sh (.int (1 + q % 3)), .sh (.str v), .un, .sh (.str letters), .sh (dL (someOf v)), .un, .un] _
          rw [List.map_append]
          exact Wk.cv (.keep (.keep (.keep (.keep (.drop (.drop (.drop (.keep (.drop (.drop (.keep (.keep .nil))))))))))))
end
end Hd

set_option Elab.async false
set_option linter.all false
set_option maxRecDepth 100000
set_option maxHeartbeats 1000000
namespace Hd
open PySem PySem.Spec PyProof.Rows L2 PL
section
variable {Pg : Program} {w : World} {K : PySem.W.Frag} {mg : Str → Option Value} {base : Heap}
def P_drawn : Ob → List D → Rs → Ob → Prop := fun o ds r o' => ∃ n sh most wide, 0 < sh.length ∧ sh.length ≤ 100 ∧ 0 < most ∧ most ≤ 1000 ∧ 0 < wide ∧ wide ≤ 1000 ∧ o = .lst [.int n] ∧ ds = [dL sh, .int most, .int wide] ∧ r = .sh (dS (drawn sh most wide n).1) ∧ o' = .lst [.int (drawn sh most wide n).2]
theorem big1010 : (1010 : Nat) < sizeLine := by decide
theorem le1000 {m : Int} (h : m ≤ 1000) : m ≤ 10 ^ 40 := Int.le_trans h (by decide +kernel)
theorem c_drawn (Dd : Df K mg "_law_drawn_stripes" s__law_drawn_stripes []) (T : Bt mg) (G_take : C1 Pg w K mg base "_law_take" 1 ["_law_pool_here", "_law_many"] P_take) : C1 Pg w K mg base "_law_drawn_stripes" 2 ["_law_pool_here", "_law_shades", "_law_most", "_law_wide"] P_drawn := by
  refine c1_mk (k := 1) Dd sc__law_drawn_stripes (fun _ _ _ _ _ _ us hl => match us, hl with | [_, _, _, _], _ => rfl) (by decide) (fun o ds r o' => ?_) (fun f cd A outer s H E g o ds r o' => ?_)
  · rintro ⟨n, sh, most, wide, h0, h1, h2, h3, h4, h5, rfl, rfl, rfl, rfl⟩
    exact ⟨rfl, fun _ z => by cases z⟩
  · rintro ⟨n, sh, most, wide, h0, h1, h2, h3, h4, h5, rfl, rfl, rfl, rfl⟩ p
    have b1 := Int.emod_nonneg n (b := most) (by omega)
    have b2 := Int.emod_lt_of_pos n (b := most) (by omega)
    have hz := big1010
    have hm := le1000 h3
    have hw := le1000 h5
    have hs := le1000 (m := (sh.length : Int)) (by omega)
    have hsl : (((sh.map D.str).length : Nat) : Int) = (sh.length : Int) := by rw [List.length_map]
    unfold drawn
    refine ⟨_, .inl (s_cons (s1_set 4 g.nd (e_lst a_nil)) (s_cons (s1_for g (it_range1 (j := 1 + n % most) T.range (a_cons (e_bin o_addI e_int (e_c1 0 G_take g has_pr (a_cons (e_var 2) a_nil) has_pr ⟨n, most, h2, hm, rfl, rfl, rfl, rfl⟩)) a_nil) (by omega) (by omega))
        (fun j => [.pr p (.lst [.int (drIt sh wide (n / most) j).2]), .sh (dL sh), .sh (.int most), .sh (.int wide), .ow (.lst ((drIt sh wide (n / most) j).1.map dP)), .un])
        (fun j => [.pr p (.lst [.int (drIt sh wide (n / most) j).2]), .sh (dL sh), .sh (.int most), .sh (.int wide), .ow (.lst ((drIt sh wide (n / most) j).1.map dP)), .sh (.int (j : Nat))]) .refl (fun j hj => g_name 5 g.nd) (fun j hj => .inl ?_))
      (s_one (s1_ret (e_callTy c_tupL T.tuple b_tuple (a_cons (e_cv (cv_frz (i := 4) rfl) (e_var 4)) a_nil)))))), rfl⟩
    obtain ⟨hlen, _⟩ := drIt_ok (n / most) h0 h4 j
    have e : drIt sh wide (n / most) (j + 1) = ((drIt sh wide (n / most) j).1 ++ [(sh.getD ((drIt sh wide (n / most) j).2 % (sh.length : Int)).toNat default, 1 + (drIt sh wide (n / most) j).2 / (sh.length : Int) % wide)], (drIt sh wide (n / most) j).2 / (sh.length : Int) / wide) := rfl
    rw [e]
    generalize (drIt sh wide (n / most) j).1 = fs at hlen
    generalize (drIt sh wide (n / most) j).2 = q
    have c1 := Int.emod_nonneg q (b := (sh.length : Int)) (by omega)
    have c2 := Int.emod_lt_of_pos q (b := (sh.length : Int)) (by omega)
    refine s_wk (s_one (s1_expr (e_append (i := 4) (e_tup (a_cons (e_ix (e_var 1) (e_c1 0 G_take g has_pr (a_cons (e_eq (e_callB c_lenL T.len b_len (a_cons (e_var 1) a_nil)) (congrArg (fun z => Rs.sh (D.int z)) hsl)) a_nil) has_pr ⟨q, (sh.length : Int), by omega, hs, rfl, rfl, rfl, rfl⟩) (i_dL (atI_ok (d := default) c1 c2))) (a_cons (e_bin o_addI e_int (e_c1 0 G_take g has_pr (a_cons (e_var 3) a_nil) has_pr ⟨_, wide, h4, hw, rfl, rfl, rfl, rfl⟩)) a_nil))) ⟨_, _, has_ow, _, rfl⟩ has_ow ?_))) ?_
    · rw [List.length_map]; omega
    · show Cv K [.pr p (.lst [.int (q / (sh.length : Int) / wide)]), .sh (dL sh), .sh (.int most), .sh (.int wide), .ow (.lst (fs.map dP ++ [dP (sh.getD (q % (sh.length : Int)).toNat default, 1 + q / (sh.length : Int) % wide)])), .sh (.int (j : Nat))] _
      rw [List.map_append]
      exact Wk.cv (.keep (.keep (.keep (.keep (.keep (.drop .nil))))))
def P_lthreads : List D → Rs → Prop := fun ds r => ∃ ps, OkSt ps ∧ ds = [dS ps] ∧ r = .sh (dL (thr ps))
theorem c_lthreads (Dd : Df K mg "_law_threads" s__law_threads []) : C0 Pg w K mg base "_law_threads" 1 ["_law_stripes"] P_lthreads := by
  refine c0_mk (k := 0) Dd sc__law_threads (fun _ _ _ _ _ _ us hl => match us, hl with | [_], _ => rfl) (by decide) (fun ds r => ?_) (fun f cd A outer s H E g ds r => ?_)
  · rintro ⟨ps, hp, rfl, rfl⟩
    exact ⟨rfl, fun _ z => by cases z⟩
  · rintro ⟨ps, hp, rfl, rfl⟩
    have hpos := hp.pos
    refine ends_eq (ends_rt (s_cons (s1_set 1 g.nd (e_lst a_nil)) (s_cons (s1_for g (it_tup (e_var 0)) (fun j => [.sh (dS ps), .ow (.lst ((thr (ps.take j)).map .str)), .un, .un]) (fun j => [.sh (dS ps), .ow (.lst ((thr (ps.take j)).map .str)), .sh (.str (ps.getD j default).1), .sh (.int (ps.getD j default).2)]) .refl (fun j hj => ?_) (fun j hj => .inl ?_))
      (s_one (s1_retO 1 (ob := .lst ((thr (ps.take (ps.map dP).length)).map .str)) rfl))))) ?_
    · have hj' : j < ps.length := by simpa using hj
      rw [itd_map dP ps j hj', List.getD_eq_getElem?_getD, List.getElem?_eq_getElem hj']
      exact g_tup g.calm (gs_cons (g_name 2 g.nd) (gs_cons (g_name 3 g.nd) gs_nil))
    · have hj' : j < ps.length := by simpa using hj
      rw [List.getD_eq_getElem?_getD, List.getElem?_eq_getElem hj']
      have le := Int.le_trans (tot_take hpos (j + 1)) hp.le
      have hl := thr_len (ps := ps.take (j + 1)) fun p h => hpos p (List.mem_of_mem_take h)
      have hl2 := hl
      rw [thr_succ hj', List.length_append, List.length_replicate] at hl2
      have pj := hpos _ (List.getElem_mem hj')
      have b := big240
      refine s_wk (s_one (s1_expr (e_extend (i := 1) (e_fz (e_bin (o_repL (ds := [.str ps[j].1]) (k := ps[j].2) (by omega) (by omega) (by show 1 * _ ≤ _; omega)) (e_fz (e_lst (a_cons (e_var 2) a_nil))) (e_var 3))) ⟨_, _, has_ow, _, rfl⟩ has_ow ?_))) ?_
      · rw [List.length_map]
        show _ + (List.replicate _ [D.str ps[j].1]).flatten.length ≤ _
        rw [PyProof.Rows.lm_len_rep_flat]
        show _ + _ * 1 ≤ _
        omega
      · have e : (thr (ps.take j)).map D.str ++ (List.replicate (ps[j].2).toNat [D.str ps[j].1]).flatten = (thr (ps.take (j + 1))).map .str := by
          rw [thr_succ hj', List.map_append, List.map_replicate]
          congr 1
          generalize (ps[j].2).toNat = n
          induction n with
          | zero => rfl
          | succ n ih => rw [List.replicate_succ, List.replicate_succ, List.flatten_cons, ih]; rfl
        show Cv K [.sh (dS ps), .ow (.lst ((thr (ps.take j)).map .str ++ (List.replicate (ps[j].2).toNat [D.str ps[j].1]).flatten)), .sh (.str ps[j].1), .sh (.int ps[j].2)] _
        rw [e]
        exact Wk.cv (.keep (.keep (.drop (.drop .nil))))
    · show Rs.sh (.lst ((thr (ps.take (ps.map dP).length)).map .str)) = _
      rw [List.length_map, List.take_length]
end
end Hd

set_option linter.all false
/-! what merging gives: the fewest stripes -/
namespace PL
open PySem PySem.Spec PyProof.Rows L2
def Unl (xs : List Str) : Prop := ∀ j, j + 1 < xs.length → xs.getD j default ≠ xs.getD (j + 1) default
structure MInv (ts : List Str) (acc : List (Str × Int)) : Prop where
  th : thr acc = ts
  pos : ∀ p ∈ acc, 0 < p.2
  mem : ∀ p ∈ acc, p.1 ∈ ts
  unl : Unl (acc.map (·.1))
theorem thr_appM (a b : List (Str × Int)) : thr (a ++ b) = thr a ++ thr b := by unfold thr; rw [List.flatMap_append]
theorem unl_snoc {xs : List Str} {t s : Str} (h : Unl (xs ++ [t])) (hn : t ≠ s) : Unl (xs ++ [t] ++ [s]) := by
  intro j hj
  rw [List.length_append, List.length_append] at hj
  have hj' : j + 1 < xs.length + 1 + 1 := hj
  by_cases h1 : j + 1 < xs.length + 1
  · have := h j (by rw [List.length_append]; exact h1)
    have g : ∀ i, i < xs.length + 1 → (xs ++ [t] ++ [s]).getD i default = (xs ++ [t]).getD i default := fun i hi => by
      rw [List.getD_eq_getElem?_getD, List.getElem?_append_left (l₁ := xs ++ [t]) (by rw [List.length_append]; exact hi), ← List.getD_eq_getElem?_getD]
    rw [g _ (Nat.lt_of_succ_lt h1), g _ h1]
    exact this
  · have e : j = xs.length := by omega
    subst e
    rw [List.getD_eq_getElem?_getD, List.getD_eq_getElem?_getD, List.getElem?_append_left (by rw [List.length_append]; exact Nat.lt_succ_self _), List.getElem?_append_right (Nat.le_refl _), List.getElem?_append_right (by rw [List.length_append]; exact Nat.le_refl _), List.length_append]
    simpa using hn
theorem unl_one (s : Str) : Unl [s] := fun j hj => absurd hj (by simp)
theorem minv_step {ts : List Str} {acc : List (Str × Int)} (h : MInv ts acc) (s : Str) : MInv (ts ++ [s]) (mrgStep acc s) := by
  unfold mrgStep
  cases e : acc.getLast? with
  | none =>
    have e0 : acc = [] := List.getLast?_eq_none_iff.mp e
    subst e0
    have ht : ts = [] := h.th.symm
    subst ht
    refine ⟨rfl, fun p hp => ?_, fun p hp => ?_, unl_one s⟩
    · rw [List.mem_singleton.mp hp]; exact (by decide : (0 : Int) < 1)
    · rw [List.mem_singleton.mp hp]; exact List.mem_singleton.mpr rfl
  | some q =>
    obtain ⟨t, n⟩ := q
    obtain ⟨b, rfl⟩ := List.getLast?_eq_some_iff.mp e
    have hn := h.pos (t, n) (List.mem_append_right _ (List.mem_singleton.mpr rfl))
    have hn' : 0 < n := hn
    show MInv _ (if t = s then (b ++ [(t, n)]).dropLast ++ [(s, n + 1)] else (b ++ [(t, n)]) ++ [(s, 1)])
    split
    · rename_i hts
      subst hts
      rw [List.dropLast_concat]
      refine ⟨?_, fun p hp => ?_, fun p hp => ?_, ?_⟩
      · have h1 := h.th
        rw [thr_appM] at h1 ⊢
        have e1 : thr [(t, n)] = List.replicate n.toNat t := by unfold thr; simp
        have e2 : thr [(t, n + 1)] = List.replicate n.toNat t ++ [t] := by
          unfold thr
          have e3 : (n + 1).toNat = n.toNat + 1 := by omega
          simp only [List.flatMap_cons, List.flatMap_nil, List.append_nil, e3]
          rw [List.replicate_succ']
        rw [e2, ← List.append_assoc, ← e1, h1]
      · rcases List.mem_append.mp hp with z | z
        · exact h.pos p (List.mem_append_left _ z)
        · rw [List.mem_singleton.mp z]; show 0 < n + 1; omega
      · rcases List.mem_append.mp hp with z | z
        · exact List.mem_append_left _ (h.mem p (List.mem_append_left _ z))
        · rw [List.mem_singleton.mp z]; exact List.mem_append_right _ (List.mem_singleton.mpr rfl)
      · have := h.unl
        rw [List.map_append] at this ⊢
        exact this
    · rename_i hts
      refine ⟨?_, fun p hp => ?_, fun p hp => ?_, ?_⟩
      · rw [thr_appM, h.th]; rfl
      · rcases List.mem_append.mp hp with z | z
        · exact h.pos p z
        · rw [List.mem_singleton.mp z]; exact (by decide : (0 : Int) < 1)
      · rcases List.mem_append.mp hp with z | z
        · exact List.mem_append_left _ (h.mem p z)
        · rw [List.mem_singleton.mp z]; exact List.mem_append_right _ (List.mem_singleton.mpr rfl)
      · have := h.unl
        rw [List.map_append] at this ⊢
        rw [List.map_append]
        exact unl_snoc this hts
theorem minv_fold : ∀ (l : List Str) {ts : List Str} {acc : List (Str × Int)}, MInv ts acc → MInv (ts ++ l) (l.foldl mrgStep acc)
  | [], ts, acc, h => by rw [List.append_nil]; exact h
  | s :: l, ts, acc, h => by
    have := minv_fold l (minv_step h s)
    rw [List.append_assoc] at this
    exact this
theorem mrg_inv (ts : List Str) : MInv ts (mrg ts) := by
  have h0 : MInv [] [] := { th := rfl, pos := fun p hp => absurd hp List.not_mem_nil, mem := fun p hp => absurd hp List.not_mem_nil, unl := fun j hj => absurd hj (Nat.not_lt_zero _) }
  have := minv_fold ts h0
  exact this
theorem mrg_ok {ts : List Str} (hs : Shs ts) (h0 : 0 < ts.length) (hl : ts.length ≤ 240) : OkSt (mrg ts) := by
  have hi := mrg_inv ts
  have hlen := thr_len hi.pos
  rw [hi.th] at hlen
  have hle : tot (mrg ts) ≤ 240 := by omega
  refine ⟨fun e => ?_, fun p hp => ?_, hle⟩
  · have := hi.th
    rw [e] at this
    rw [← this] at h0
    exact absurd h0 (by decide)
  · have h1 := hi.pos p hp
    refine ⟨hs _ (hi.mem p hp), ?_⟩
    obtain ⟨j, hj, rfl⟩ := List.getElem_of_mem hp
    have h2 := tot_take hi.pos (j + 1)
    rw [tot_succ hj] at h2
    have h3 := tot_nonneg (ps := (mrg ts).take j) fun q hq => hi.pos q (List.mem_of_mem_take hq)
    omega
theorem mrg_lenT (ts : List Str) : (mrg ts).length ≤ ts.length := by
  have key : ∀ ps : List (Str × Int), (∀ p ∈ ps, 0 < p.2) → ps.length ≤ (thr ps).length := by
    intro ps
    induction ps with
    | nil => intro _; exact Nat.le_refl _
    | cons p ps ih =>
      intro h
      have h1 := h p (List.mem_cons_self ..)
      have h2 := ih fun q hq => h q (List.mem_cons_of_mem _ hq)
      show ps.length + 1 ≤ ((p :: ps).flatMap fun p => List.replicate p.2.toNat p.1).length
      rw [List.flatMap_cons, List.length_append, List.length_replicate]
      unfold thr at h2
      omega
  have := key _ (mrg_inv ts).pos
  rw [(mrg_inv ts).th] at this
  exact this
end PL

set_option Elab.async false
set_option linter.all false
set_option maxRecDepth 100000
set_option maxHeartbeats 1000000
namespace Hd
open PySem PySem.Spec PyProof.Rows L2 PL
section
variable {Pg : Program} {w : World} {K : PySem.W.Frag} {mg : Str → Option Value} {base : Heap}
theorem c_any {X : Cx} {ns : List Bool} (hc : X.calm = true) : CallS X (.builtin "any") [.lst (ns.map .bl)] (.sh (.bl (ns.any id))) := calls_sc (cr_any hc) (.bl _) (fun _ => rfl) fun H S vs Q s r q => by
  obtain ⟨v, rfl, p, us, rfl, h1, h2⟩ := reps1 r
  rw [h2.bls] at h1
  exact ⟨p, ns, rfl, .of (s _ _ h1), q⟩
def P_whole : List D → Rs → Prop := fun ds r => ∃ i : Int, ds = [.int i] ∧ r = .sh (.bl true)
theorem c_whole (Dd : Df K mg "_law_whole" s__law_whole []) (T : Bt mg) : C0 Pg w K mg base "_law_whole" 1 ["_law_thing"] P_whole := by
  refine c0_mk (k := 0) Dd sc__law_whole (fun _ _ _ _ _ _ us hl => match us, hl with | [_], _ => rfl) (by decide) (fun ds r => ?_) (fun f cd A outer s H E g ds r => ?_)
  · rintro ⟨i, rfl, rfl⟩
    exact ⟨rfl, fun _ z => by cases z⟩
  · rintro ⟨i, rfl, rfl⟩
    exact ends_rt (s_one (s1_ret (e_andT (e_callB (c_isInt (d := .int i) rfl) T.isinstance b_isinstance (a_cons (e_var 0) (a_cons (e_ty T.int b_int) a_nil))) (e_one (e_eq (e_not (e_callB (c_isBool (d := .int i) rfl) T.isinstance b_isinstance (a_cons (e_var 0) (a_cons (e_ty T.bool b_bool) a_nil)))) rfl)))))
def P_fewest : List D → Rs → Prop := fun ds r => ∃ ts, Shs ts ∧ 0 < ts.length ∧ ts.length ≤ 240 ∧ ds = [dT ts, dS (mrg ts)] ∧ r = .sh (.bl true)
theorem c_fewest (Dd : Df K mg "_law_are_fewest" s__law_are_fewest []) (T : Bt mg) (G_whole : C0 Pg w K mg base "_law_whole" 1 ["_law_thing"] P_whole) (G_threads : C0 Pg w K mg base "_law_threads" 1 ["_law_stripes"] P_lthreads) : C0 Pg w K mg base "_law_are_fewest" 2 ["_law_words", "_law_found"] P_fewest := by
  refine c0_mk (k := 1) Dd sc__law_are_fewest (fun _ _ _ _ _ _ us hl => match us, hl with | [_, _], _ => rfl) (by decide) (fun ds r => ?_) (fun f cd A outer s H E g ds r => ?_)
  · rintro ⟨ts, _, _, _, rfl, rfl⟩
    exact ⟨rfl, fun _ z => by cases z⟩
  · rintro ⟨ts, hs, h0, hl, rfl, rfl⟩
    have hok := mrg_ok hs h0 hl
    have hlen := mrg_lenT ts
    have hth := (mrg_inv ts).th
    have hun := (mrg_inv ts).unl
    obtain ⟨ps, hps⟩ : ∃ ps, ps = mrg ts := ⟨_, rfl⟩
    rw [← hps] at hok hlen hth hun ⊢
    have hl3 : ps.length ≤ 240 := Nat.le_trans hlen hl
    have hz := big2000
    have hpl : (ps.map dP).length = ps.length := List.length_map ..
    have hat : ∀ j, j < ps.length → itd (ps.map dP) j = dP (ps.getD j default) := fun j hj => by
      rw [itd_map dP ps j hj, List.getD_eq_getElem?_getD, List.getElem?_eq_getElem hj]; rfl
    have hpos : ∀ j, j < ps.length → 0 < (ps.getD j default).2 := fun j hj => by
      rw [List.getD_eq_getElem?_getD, List.getElem?_eq_getElem hj]
      exact hok.pos _ (List.getElem_mem hj)
    have hany : ((List.range (ps.map dP).length).map fun l => decide ((ps.getD l default).2 < 1)).any id = false := by
      rw [List.any_eq_false]
      intro b hb
      obtain ⟨j, hj, rfl⟩ := List.mem_map.mp hb
      have := hpos j (by rw [← hpl]; exact List.mem_range.mp hj)
      have h1 : ¬ (ps.getD j default).2 < 1 := by omega
      rw [decide_eq_false h1]
      decide
    have hall : (List.range (((ps.map dP).length : Int) - 1).toNat).all (fun j => !decide ((ps.getD j default).1 = (ps.getD (j + 1) default).1)) = true := by
      rw [List.all_eq_true]
      intro j hj
      have hj1 := List.mem_range.mp hj
      have hj2 : j + 1 < ps.length := by omega
      have := hun j (by rw [List.length_map]; exact hj2)
      have e : ∀ i, i < ps.length → (ps.map (·.1)).getD i default = (ps.getD i default).1 := fun i hi => by
        rw [List.getD_eq_getElem?_getD, List.getElem?_map, List.getD_eq_getElem?_getD, List.getElem?_eq_getElem hi]; rfl
      rw [e _ (by omega), e _ hj2] at this
      rw [decide_eq_false this]; rfl
    have hany' : (List.range (ps.map dP).length).map (fun l => D.bl (decide ((ps.getD l default).2 < 1))) = ((List.range (ps.map dP).length).map fun l => decide ((ps.getD l default).2 < 1)).map .bl := by rw [List.map_map]; rfl
    apply ends_rt
    refine s_ifN (t_eq (t_not (t_val (e_callB (c_isTup (d := dS ps) rfl) T.isinstance b_isinstance (a_cons (e_var 1) (a_cons (e_ty T.tuple b_tuple) a_nil))))) rfl) ?_
    refine s_cons (Γ1 := [.sh (dT ts), .sh (dS ps), .un, .un, .un, .un]) (s1_for g (it_tup (e_var 1)) (fun _ => [.sh (dT ts), .sh (dS ps), .un, .un, .un, .un]) (fun j => [.sh (dT ts), .sh (dS ps), .sh (dP (ps.getD j default)), .un, .un, .un]) .refl (fun j hj => ?_) (fun j hj => .inl ?_)) ?_
    · rw [hat j (by rw [← hpl]; exact hj)]
      exact g_name 2 g.nd
    · generalize ps.getD j default = q
      obtain ⟨x, n⟩ := q
      refine s_wk (Γ1 := [.sh (dT ts), .sh (dS ps), .sh (dP (x, n)), .un, .un, .un]) (s_ifN (t_w (w_orF (t_eq (t_not (t_val (e_callB (c_isTup (d := dP (x, n)) rfl) T.isinstance b_isinstance (a_cons (e_var 2) (a_cons (e_ty T.tuple b_tuple) a_nil))))) rfl) (w_orF (t_eq (t_cmp o_neI (e_callB c_lenT T.len b_len (a_cons (e_var 2) a_nil)) e_int) rfl) (w_orF (t_eq (t_not (t_val (e_callB (c_isStr (d := .str x) rfl) T.isinstance b_isinstance (a_cons (e_ix (e_var 2) e_int (i_tup rfl)) (a_cons (e_ty T.str b_str) a_nil))))) rfl) (w_or1 (t_eq (t_not (t_val (e_c0 G_whole g (a_cons (e_ix (e_var 2) e_int (i_tup rfl)) a_nil) ⟨n, rfl, rfl⟩))) rfl)))))) s_nil) ?_
      exact Wk.cv (.keep (.keep (.drop (.keep (.keep (.keep .nil))))))
    · refine s_ifN (t_w (w_orF (t_eq (t_val (e_callB (c_any g.calm) T.any b_any (a_cons (e_fz (e_eq (e_lc2 3 4 g (lc2 (a := fun l => .str (ps.getD l default).1) (b := fun l => .int (ps.getD l default).2) (f := fun l => .bl (decide ((ps.getD l default).2 < 1))) 3 4 g (it_tup (e_var 1)) (fun l hl => hat l (by rw [← hpl]; exact hl)) (by omega) (blkOk_by (N := N__law_are_fewest) (sc := defScope s__law_are_fewest) (by decide +kernel)) rfl rfl (fun l hl s1 H1 C1 cl fp => e_cmp o_lt (e_var 4) e_int))) (congrArg (fun z => Rs.ow (Ob.lst z)) hany'))) a_nil))) hany) (w_or1 (t_eq (t_cmp (o_neL (xs := thr ps) (ys := ts) g.rm.units (by rw [hth]; exact hs.ok) hs.ok) (e_c0 G_threads g (a_cons (e_var 1) a_nil) ⟨ps, hok, rfl, rfl⟩) (e_fz (e_callTy c_listT T.list b_list (a_cons (e_var 0) a_nil)))) ?_)))) ?_
      · rw [hth, decide_eq_true rfl]; rfl
      · refine s_one (s1_ret (e_eq (e_callB (c_allR (n := (((ps.map dP).length : Int) - 1).toNat) (b := fun j => !decide ((ps.getD j default).1 = (ps.getD (j + 1) default).1)) g.calm) T.all b_all (a_cons (e_fz (e_lc1 5 (fun j => .bl (!decide ((ps.getD j default).1 = (ps.getD (j + 1) default).1))) g (it_range2 (l := 1) T.range (a_cons e_int (a_cons (e_callB c_lenT T.len b_len (a_cons (e_var 1) a_nil)) a_nil)) (by omega)) (by omega) (blkOk_by (N := N__law_are_fewest) (sc := defScope s__law_are_fewest) (by decide +kernel)) rfl (fun j hj s1 H1 C1 cl fp => ?_))) a_nil)) (by rw [hall])))
        have hj2 : j + 1 < ps.length := by omega
        have i1 : atI (ps.map dP) (1 + (j : Int) - 1) = some (dP (ps.getD j default)) := by
          rw [show (1 + (j : Int) - 1) = ((j : Nat) : Int) by omega, atI_map, atI_ok (d := default) (by omega) (by omega)]; rfl
        have i2 : atI (ps.map dP) (1 + (j : Int)) = some (dP (ps.getD (j + 1) default)) := by
          rw [show (1 + (j : Int)) = ((j + 1 : Nat) : Int) by omega, atI_map, atI_ok (d := default) (by omega) (by omega)]; rfl
        generalize ps.getD j default = p1 at i1 ⊢
        generalize ps.getD (j + 1) default = p2 at i2 ⊢
        exact e_cmp o_neS (e_ix (e_ix (e_var 1) (e_bin o_subI (e_var 5) e_int) (i_tup i1)) e_int (i_tup rfl)) (e_ix (e_ix (e_var 1) (e_var 5) (i_tup i2)) e_int (i_tup rfl))
end
end Hd

set_option Elab.async false
set_option linter.all false
set_option maxRecDepth 100000
set_option maxHeartbeats 1000000
namespace Hd
open PySem PySem.Spec PyProof.Rows L2 PL
section
variable {Pg : Program} {w : World} {K : PySem.W.Frag} {mg : Str → Option Value} {base : Heap}
def oddD : List D := [.str "", .str "abcd", .str "A", .str "a1", .non, .int 0, .bl true, .tup [.str "a"], .lst [.str "a"], .dct [] [], .tup [.lst [.str "a"]], .str "a ", .str " "]
def putD (ts : List Str) (a : Nat) (d : D) : List D := ((ts.map D.str).take a ++ [d]) ++ (ts.map D.str).drop (a + 1)
def nothL (n : Int) (ts : List Str) : List D := ((List.range oddD.length).map fun j => .tup (putD ts (n % (ts.length : Int)).toNat (itd oddD j))) ++ [dL ts, .tup [], .non, .str "", .int 0, .dct [] [], .bl true, .str (ts.getD 0 default), .tup (cutL (List.replicate 241 (ts.map D.str)).flatten none (some 241)), .tup [dT ts]]
def badB : D → Bool
  | .str x => decide (x.length ≤ 1000) && !wordB x 3
  | d => d.plain
theorem badB_ok {d : D} (h : badB d = true) : Pl d ∧ shadeD d = false := by
  cases d with
  | str x =>
    obtain ⟨h1, h2⟩ := Bool.and_eq_true_iff.mp (show (decide (x.length ≤ 1000) && !wordB x 3) = true from h)
    refine ⟨Nat.le_trans (of_decide_eq_true h1) (by decide), ?_⟩
    show wordB x 3 = false
    cases e : wordB x 3
    · rfl
    · rw [e] at h2; cases h2
  | _ => exact ⟨h, rfl⟩
theorem odd_bad : ∀ d ∈ oddD, Pl d ∧ shadeD d = false := fun d hd => badB_ok (List.all_eq_true.mp (show oddD.all badB = true by decide +kernel) d hd)
theorem itd_mem {ds : List D} {j : Nat} (h : j < ds.length) : itd ds j ∈ ds := by
  unfold itd
  rw [List.getD_eq_getElem?_getD, List.getElem?_eq_getElem h]
  exact List.getElem_mem h
theorem rep_len {α : Type} (xs : List α) : ∀ n, (List.replicate n xs).flatten.length = n * xs.length
  | 0 => by rw [Nat.zero_mul]; rfl
  | n + 1 => by rw [List.replicate_succ, List.flatten_cons, List.length_append, rep_len xs n, Nat.succ_mul, Nat.add_comm]
theorem rep_mem {α : Type} {xs : List α} {x : α} {n : Nat} (h : x ∈ (List.replicate n xs).flatten) : x ∈ xs := by
  obtain ⟨l, h1, h2⟩ := List.mem_flatten.mp h
  rw [(List.mem_replicate.mp h1).2] at h2
  exact h2
theorem noth_bad (n : Int) {ts : List Str} (hs : Shs ts) (h0 : 0 < ts.length) (hl : ts.length ≤ 240) : ∀ d ∈ nothL n ts, NoThr d := by
  have hpl : ∀ x ∈ ts.map D.str, Pl x := fun x hx => by
    obtain ⟨t, ht, rfl⟩ := List.mem_map.mp hx
    exact shade_pl (hs t ht)
  have hlen : (ts.map D.str).length = ts.length := List.length_map ..
  intro d hd
  rcases List.mem_append.mp hd with h | h
  · obtain ⟨j, hj, rfl⟩ := List.mem_map.mp h
    obtain ⟨o1, o2⟩ := odd_bad _ (itd_mem (List.mem_range.mp hj))
    generalize itd oddD j = x at o1 o2
    refine .inl ⟨_, rfl, fun y hy => ?_, ?_, ?_⟩
    · rcases List.mem_append.mp hy with hy | hy
      · rcases List.mem_append.mp hy with hy | hy
        · exact hpl y (List.mem_of_mem_take hy)
        · rw [List.mem_singleton.mp hy]; exact o1
      · exact hpl y (List.mem_of_mem_drop hy)
    · unfold putD
      rw [List.length_append, List.length_append, List.length_take, List.length_drop, hlen]
      show _ + 1 + _ ≤ 1000
      omega
    · unfold thrB
      have : (putD ts (n % (ts.length : Int)).toNat x).all shadeD = false := by
        rw [List.all_eq_false]
        refine ⟨x, ?_, by rw [o2]; decide⟩
        exact List.mem_append_left _ (List.mem_append_right _ (List.mem_singleton.mpr rfl))
      rw [this, Bool.and_false]
  · rcases List.mem_cons.mp h with rfl | h
    · exact .inr ⟨rfl, rfl⟩
    rcases List.mem_cons.mp h with rfl | h
    · exact .inl ⟨[], rfl, fun x hx => absurd hx List.not_mem_nil, by decide, rfl⟩
    rcases List.mem_cons.mp h with rfl | h
    · exact .inr ⟨rfl, rfl⟩
    rcases List.mem_cons.mp h with rfl | h
    · exact .inr ⟨rfl, rfl⟩
    rcases List.mem_cons.mp h with rfl | h
    · exact .inr ⟨rfl, rfl⟩
    rcases List.mem_cons.mp h with rfl | h
    · exact .inr ⟨rfl, rfl⟩
    rcases List.mem_cons.mp h with rfl | h
    · exact .inr ⟨rfl, rfl⟩
    rcases List.mem_cons.mp h with rfl | h
    · exact .inr ⟨rfl, rfl⟩
    rcases List.mem_cons.mp h with rfl | h
    · have e : cutL (List.replicate 241 (ts.map D.str)).flatten none (some 241) = (List.replicate 241 (ts.map D.str)).flatten.take 241 := cut_to _ 241
      rw [e]
      have h241 : ((List.replicate 241 (ts.map D.str)).flatten.take 241).length = 241 := by
        rw [List.length_take, rep_len, hlen]
        omega
      refine .inl ⟨_, rfl, fun y hy => hpl y (rep_mem (List.mem_of_mem_take hy)), by rw [h241]; decide, ?_⟩
      unfold thrB
      rw [h241]
      rfl
    rcases List.mem_cons.mp h with rfl | h
    · refine .inl ⟨_, rfl, fun y hy => ?_, Nat.le_of_ble_eq_true rfl, ?_⟩
      · rw [List.mem_singleton.mp hy]; rfl
      · rfl
    · exact absurd h List.not_mem_nil
def P_noth : Ob → List D → Rs → Ob → Prop := fun o ds r o' => ∃ n ts, Shs ts ∧ 0 < ts.length ∧ ts.length ≤ 240 ∧ o = .lst [.int n] ∧ ds = [dT ts] ∧ r = .sh (.lst (nothL n ts)) ∧ o' = .lst [.int (n / (ts.length : Int))]
theorem c_noth (Dd : Df K mg "_law_no_threads" s__law_no_threads []) (T : Bt mg) (G_take : C1 Pg w K mg base "_law_take" 1 ["_law_pool_here", "_law_many"] P_take) : C1 Pg w K mg base "_law_no_threads" 2 ["_law_pool_here", "_law_words"] P_noth := by
  refine c1_mk (k := 1) Dd sc__law_no_threads (fun _ _ _ _ _ _ us hl => match us, hl with | [_, _], _ => rfl) (by decide) (fun o ds r o' => ?_) (fun f cd A outer s H E g o ds r o' => ?_)
  · rintro ⟨n, ts, _, _, _, rfl, rfl, rfl, rfl⟩
    exact ⟨rfl, fun _ z => by cases z⟩
  · rintro ⟨n, ts, hs, h0, hl, rfl, rfl, rfl, rfl⟩ p
    have hz := big2000
    have hlen : (ts.map D.str).length = ts.length := List.length_map ..
    have hsl : (((ts.map D.str).length : Nat) : Int) = (ts.length : Int) := by rw [hlen]
    have hm := le1000 (m := (ts.length : Int)) (by omega)
    have b1 := Int.emod_nonneg n (b := (ts.length : Int)) (by omega)
    have b2 := Int.emod_lt_of_pos n (b := (ts.length : Int)) (by omega)
    obtain ⟨a, ha⟩ : ∃ a : Nat, a = (n % (ts.length : Int)).toNat := ⟨_, rfl⟩
    have hai : n % (ts.length : Int) = (a : Int) := by omega
    have t2 : SX (cx Pg w K mg base N__law_no_threads "_law_no_threads" (defScope s__law_no_threads) f cd A outer s H E) [.pr p (.lst [.int (n / (ts.length : Int))]), .sh (dT ts), .sh (.int (a : Nat)), .sh (.lst oddD), .un, .un] ((defBody s__law_no_threads).drop 2) (.rt (.sh (.lst (nothL n ts))) [.pr p (.lst [.int (n / (ts.length : Int))]), .sh (dT ts), .sh (.int (a : Nat)), .sh (.lst oddD), .sh (.lst ((List.range oddD.length).map fun j => .tup (putD ts a (itd oddD j)))), .un]) := by
      refine s_cons (Γ1 := [.pr p (.lst [.int (n / (ts.length : Int))]), .sh (dT ts), .sh (.int (a : Nat)), .sh (.lst oddD), .sh (.lst ((List.range oddD.length).map fun j => .tup (putD ts a (itd oddD j)))), .un]) (s1_setLcF 4 g (lc1 5 (fun j => .tup (putD ts a (itd oddD j))) g (it_list (e_var 3)) (Nat.le_trans (show oddD.length ≤ 2000 by decide) (Nat.le_of_lt hz)) (blkOk_by (N := N__law_no_threads) (sc := defScope s__law_no_threads) (by decide +kernel)) rfl (fun j hj s1 H1 C1 cl fp => ?_)) took_all) ?_
      · generalize itd oddD j = x
        have e1 : cutL (ts.map D.str) none (some (a : Int)) = (ts.map D.str).take a := cut_to _ a
        have e2 : cutL (ts.map D.str) (some ((a : Int) + 1)) none = (ts.map D.str).drop (a + 1) := cut_from _ (a + 1)
        unfold putD
        rw [← e1, ← e2]
        refine e_bin (o_catT ?_) (e_bin (o_catT ?_) (e_slice l_tup (e_var 1) p_none (p_some (e_var 2))) (e_tup (a_cons (e_var 5) a_nil))) (e_slice l_tup (e_var 1) (p_some (e_bin o_addI (e_var 2) e_int)) p_none)
        · rw [e1, e2, List.length_append, List.length_take, List.length_drop, hlen]
          show _ + 1 + _ ≤ _
          omega
        · rw [e1, List.length_take, hlen]
          show _ + 1 ≤ _
          omega
      · unfold nothL
        rw [← ha]
        have i0 : atI ts 0 = some (ts.getD 0 default) := atI_ok (by decide) (by omega)
        refine s_one (s1_ret (e_fz (e_bin (o_catL ?_) (e_var 4) (e_fz (e_lst (a_cons (e_fz (e_callTy c_listT T.list b_list (a_cons (e_var 1) a_nil))) (a_cons (e_tup a_nil) (a_cons e_non (a_cons e_str (a_cons e_int (a_cons (e_frz e_dict0) (a_cons e_bl (a_cons (e_ix (e_var 1) e_int (i_dT i0)) (a_cons (e_slice l_tup (e_bin (o_repT (k := 241) ?_ (by decide) (by decide) ?_) (e_var 1) e_int) p_none (p_some e_int)) (a_cons (e_tup (a_cons (e_var 1) a_nil)) a_nil)))))))))))))))
        · rw [List.length_map, List.length_range]
          exact Nat.le_trans (show oddD.length + 10 ≤ 2000 by decide) (Nat.le_of_lt hz)
        · intro e
          rw [e] at hlen
          exact absurd hlen (by show ¬ 0 = _; omega)
        · omega
    have t1 : SX (cx Pg w K mg base N__law_no_threads "_law_no_threads" (defScope s__law_no_threads) f cd A outer s H E) [.pr p (.lst [.int (n / (ts.length : Int))]), .sh (dT ts), .sh (.int (a : Nat)), .un, .un, .un] ((defBody s__law_no_threads).drop 1) (.rt (.sh (.lst (nothL n ts))) [.pr p (.lst [.int (n / (ts.length : Int))]), .sh (dT ts), .sh (.int (a : Nat)), .sh (.lst oddD), .sh (.lst ((List.range oddD.length).map fun j => .tup (putD ts a (itd oddD j)))), .un]) := by
      have e : ∃ (st : Stmt) (rest : List Stmt), (defBody s__law_no_threads).drop 1 = st :: rest ∧ asgV st = some (("_law_odd" : Str), D.lst oddD) ∧ rest = (defBody s__law_no_threads).drop 2 := ⟨_, _, rfl, by kernel_rfl, rfl⟩
      obtain ⟨st, rest, e0, hv, e1⟩ := e
      rw [← e1] at t2
      rw [e0]
      exact s_asgV 3 hv (by kernel_rfl) g (by show 3 < 6; decide) rfl rfl t2
    refine ⟨[.pr p (.lst [.int (n / (ts.length : Int))]), .sh (dT ts), .sh (.int (a : Nat)), .sh (.lst oddD), .sh (.lst ((List.range oddD.length).map fun j => .tup (putD ts a (itd oddD j)))), .un], .inl (s_cons (s1_set 2 (r := .sh (.int (a : Nat))) g.nd (e_eq (e_c1 0 G_take g has_pr (a_cons (e_eq (e_callB c_lenT T.len b_len (a_cons (e_var 1) a_nil)) (congrArg (fun z => Rs.sh (D.int z)) hsl)) a_nil) has_pr ⟨n, (ts.length : Int), by omega, hm, rfl, rfl, rfl, rfl⟩) (by rw [hai]))) ?_), rfl⟩
    assumption
end
end Hd

set_option Elab.async false
set_option linter.all false
namespace PL
open PySem PySem.Spec PyProof.Rows L2
def lawW (m : Mnr) (ts : List Str) : List Str := if ts.length = 1 then ts else layW m ts
/-! ### the law's least round -/
theorem flat_getD (xs : List Str) : ∀ (q j : Nat), j < q * xs.length → (List.replicate q xs).flatten.getD j default = xs.getD (j % xs.length) default
  | 0, j, h => by rw [Nat.zero_mul] at h; exact absurd h (Nat.not_lt_zero _)
  | q + 1, j, h => by
    rw [List.replicate_succ, List.flatten_cons, List.getD_eq_getElem?_getD]
    by_cases hj : j < xs.length
    · rw [List.getElem?_append_left hj, Nat.mod_eq_of_lt hj, ← List.getD_eq_getElem?_getD]
    · rw [List.getElem?_append_right (by omega), ← List.getD_eq_getElem?_getD, flat_getD xs q (j - xs.length) (by rw [Nat.succ_mul] at h; omega), ← Nat.mod_eq_sub_mod (by omega : j ≥ xs.length)]
theorem flat_len (xs : List Str) (q : Nat) : (List.replicate q xs).flatten.length = q * xs.length := by rw [lm_len_rep_flat]
theorem rep_per {ts : List Str} {k : Nat} (hk : 0 < k) (hkn : k ≤ ts.length) (hd : ts.length % k = 0) : (List.replicate (ts.length / k) (ts.take k)).flatten = ts ↔ ts.drop k = ts.take (ts.length - k) := by
  have hl : (ts.take k).length = k := by rw [List.length_take]; omega
  have hq : ts.length / k * k = ts.length := Nat.div_mul_cancel (Nat.dvd_of_mod_eq_zero hd)
  constructor
  · intro h
    refine ext_getD (by rw [List.length_drop, List.length_take]; omega) fun j hj => ?_
    rw [List.length_drop] at hj
    have root : ∀ i, i < ts.length → ts.getD i default = ts.getD (i % k) default := fun i hi => by
      have z := congrArg (fun l => List.getD l i default) h
      have w : (List.replicate (ts.length / k) (ts.take k)).flatten.getD i default = ts.getD i default := z
      rw [← w, flat_getD _ _ _ (by rw [hl]; omega), hl, getD_take (Nat.mod_lt _ hk)]
    rw [getD_drop, getD_take (by omega), root _ (by omega), root j (by omega), Nat.add_mod_left]
  · intro h
    have key : ∀ j, j + k < ts.length → ts.getD (j + k) default = ts.getD j default := fun j hj => by
      have z := congrArg (fun l => List.getD l j default) h
      have w : (ts.drop k).getD j default = (ts.take (ts.length - k)).getD j default := z
      rw [getD_drop, getD_take (by omega)] at w
      rw [Nat.add_comm]; exact w
    refine ext_getD (by rw [flat_len, hl]; exact hq) fun j hj => ?_
    rw [flat_len, hl, hq] at hj
    rw [flat_getD _ _ _ (by rw [hl]; omega), hl, getD_take (Nat.mod_lt _ hk), ← per_root hk key j hj]
/-! ### what is due -/
theorem lawW_len (m : Mnr) {ts : List Str} (h : 0 < ts.length) : 0 < (lawW m ts).length := by
  unfold lawW
  split
  · exact h
  · exact layW_pos m h
theorem lawW_le (m : Mnr) (ts : List Str) : (lawW m ts).length ≤ 2 * ts.length := by
  unfold lawW
  split
  · omega
  · exact layW_len m ts
theorem lawW_shs (m : Mnr) {ts : List Str} (h : Shs ts) : Shs (lawW m ts) := by
  unfold lawW
  split
  · exact h
  · exact layW_shs m h
def dueL (wd : List Str) (st : Int) : List Str := (List.range (lr wd)).map fun (j : Nat) => cyc wd ((j : Int) + st)
theorem dueL_len (wd : List Str) (st : Int) : (dueL wd st).length = lr wd := by unfold dueL; rw [List.length_map, List.length_range]
theorem due_spin {wd : List Str} (h : 0 < wd.length) (st : Int) : dueL wd st = spin wd (lr wd) st := by
  have hp := lr_pos h
  refine ext_getD (by rw [dueL_len, spin_len]) fun j hj => ?_
  rw [dueL_len] at hj
  have e : (dueL wd st).getD j default = cyc wd ((j : Int) + st) := by unfold dueL; rw [map_getD hj]
  rw [e, ← cyc_spin hp (lr_le wd) (lr_spec h).2.1, cyc_nat (by rw [spin_len]; exact hj)]
theorem lr_one (t : Str) : lr [t] = 1 := rfl
theorem lr_two (t : Str) : lr [t, t] = 1 := by
  unfold lr
  have : (List.range ([t, t].length - 1)).find? (fun i => perAt [t, t] (i + 1)) = some 0 := find_first (by show (0 : Nat) < 1; omega) (by unfold perAt; simp) (fun j hj => absurd hj (Nat.not_lt_zero _))
  rw [this]; rfl
theorem due_row (m : Mnr) {ts : List Str} (h : 0 < ts.length) (st : Int) : dueL (lawW m ts) st = spin (layW m ts) (lr (layW m ts)) st := by
  by_cases h1 : ts.length = 1
  · obtain ⟨t, rfl⟩ : ∃ t, ts = [t] := List.length_eq_one_iff.mp h1
    have e : lawW m [t] = [t] := rfl
    rw [e]
    have one : dueL [t] st = [t] := by
      refine ext_getD (by rw [dueL_len]; rfl) fun j hj => ?_
      have hj' : j < 1 := by rw [dueL_len] at hj; exact hj
      have e1 : (dueL [t] st).getD j default = cyc [t] ((j : Int) + st) := by unfold dueL; rw [map_getD (show j < lr [t] from hj')]
      rw [e1]
      unfold cyc
      rw [show ((j : Int) + st) % (([t].length : Nat) : Int) = 0 from Int.emod_one _, show j = 0 by omega]
      rfl
    have hs : ∀ wd : List Str, lr wd = 1 → wd.getD 0 default = t → spin wd (lr wd) st = [t] := fun wd hl hw => by
      rw [hl]
      refine ext_getD (by rw [spin_len]; rfl) fun j hj => ?_
      rw [spin_len] at hj
      rw [spin_getD hj, show ((j : Int) + st) % ((1 : Nat) : Int) = 0 from Int.emod_one _, show j = 0 by omega]
      exact hw
    rw [one]
    cases m with
    | run => exact (hs [t] rfl rfl).symm
    | pivot => exact (hs [t] rfl rfl).symm
    | fold => exact (hs [t, t] (lr_two t) rfl).symm
    | left => exact (hs [t] rfl rfl).symm
    | right => exact (hs [t] rfl rfl).symm
  · have e : lawW m ts = layW m ts := by unfold lawW; rw [if_neg h1]
    rw [e]
    exact due_spin (layW_pos m h) st
/-! ### what is laid -/
def laidOf (b : Bool) (n : Int) : Laid :=
  let sh := shs n
  let dr := drawn sh.1 (mostOf b) (wideOf b) sh.2
  let n2 := dr.2 / 5
  if 120 < (thr dr.1).length then ⟨dr.1, .run, stOf n2, stN n2⟩
  else if n2 % 4 = 1 then ⟨dr.1 ++ dr.1, .run, stOf (n2 / 4), stN (n2 / 4)⟩
  else ⟨dr.1, mnrs.getD (dr.2 % 5).toNat .run, stOf (n2 / 4), stN (n2 / 4)⟩
theorem shN_le {n : Int} : shN n ≤ 4 ∧ 0 < shN n := by
  unfold shN
  have a := Int.emod_nonneg n (b := 5) (by decide)
  have b := Int.emod_lt_of_pos n (b := 5) (by decide)
  have h : ∀ j : _root_.Fin 5, ([1, 2, 2, 3, 4] : List Nat).getD j.val 0 ≤ 4 ∧ 0 < ([1, 2, 2, 3, 4] : List Nat).getD j.val 0 := by decide
  exact h ⟨(n % 5).toNat, by omega⟩
theorem shs_ok (n : Int) : 0 < (shs n).1.length ∧ (shs n).1.length ≤ 4 ∧ ∀ x ∈ (shs n).1, okW 1 3 x := by
  obtain ⟨h1, h2⟩ := shIt_ok (n / 5) (shN n) (Nat.le_trans shN_le.1 (by decide))
  have h3 := shN_le (n := n)
  unfold shs
  exact ⟨by omega, by omega, h2⟩
theorem drawn_ok {sh : List Str} {most wide : Int} (n : Int) (h0 : 0 < sh.length) (hm : 0 < most) (hw : 0 < wide) (hs : ∀ x ∈ sh, okW 1 3 x) (hb : most * wide ≤ 240) : OkSt (drawn sh most wide n).1 := by
  have a := Int.emod_nonneg n (b := most) (by omega)
  have b := Int.emod_lt_of_pos n (b := most) (by omega)
  obtain ⟨h1, h2⟩ := drIt_ok (n / most) h0 hw (1 + n % most).toNat
  unfold drawn
  refine ⟨fun e => ?_, fun p hp => ⟨okW_shade (hs _ (h2 p hp).1), by have := (h2 p hp).2.1; omega⟩, ?_⟩
  · rw [e] at h1
    have : 0 = (1 + n % most).toNat := h1
    omega
  · refine Int.le_trans (tot_le fun p hp => (h2 p hp).2.2) (Int.le_trans ?_ hb)
    rw [h1]
    exact Int.mul_le_mul_of_nonneg_right (by omega) (by omega)
theorem mw_ok (b : Bool) : 0 < mostOf b ∧ 0 < wideOf b ∧ mostOf b * wideOf b ≤ 240 ∧ mostOf b ≤ 1000 ∧ wideOf b ≤ 1000 := by cases b <;> decide
theorem stOf_ok (n : Int) : -e30 ≤ stOf n ∧ stOf n ≤ e30 := by
  have h30 : (30 : Int) ≤ e30 := by decide +kernel
  have h0 : (0 : Int) < e30 := by decide +kernel
  have a := Int.emod_nonneg n (b := 30) (by decide)
  have b := Int.emod_lt_of_pos n (b := 30) (by decide)
  have c := Int.emod_nonneg (n / 30) (b := 30) (by decide)
  have d := Int.emod_lt_of_pos (n / 30) (b := 30) (by decide)
  have e := Int.emod_nonneg (n / 30 / 30) (b := e30) (by omega)
  have f := Int.emod_lt_of_pos (n / 30 / 30) (b := e30) (by omega)
  unfold stOf
  generalize e30 = z at *
  split
  · omega
  · split
    · omega
    · split <;> omega
structure LaidOk (L : Laid) : Prop where
  ps : OkSt L.ps
  st : -e30 ≤ L.st ∧ L.st ≤ e30
  le : (layW L.m (thr L.ps)).length ≤ 240
theorem dr_ok (b : Bool) (n : Int) : OkSt (drawn (shs n).1 (mostOf b) (wideOf b) (shs n).2).1 := drawn_ok (shs n).2 (shs_ok n).1 (mw_ok b).1 (mw_ok b).2.1 (shs_ok n).2.2 (mw_ok b).2.2.1
theorem thr_le {ps : List (Str × Int)} (h : OkSt ps) : (thr ps).length ≤ 240 := by
  have h1 := thr_len fun p hp => (h.ok p hp).2
  have h2 := h.le
  omega
theorem laid_ok (b : Bool) (n : Int) : LaidOk (laidOf b n) := by
  have hd := dr_ok b n
  unfold laidOf
  simp only
  generalize drawn (shs n).1 (mostOf b) (wideOf b) (shs n).2 = dr at hd
  split
  · exact ⟨hd, stOf_ok _, thr_le hd⟩
  · rename_i h120
    split
    · have ht := thr_len fun p hp => (hd.ok p hp).2
      refine ⟨⟨fun e => hd.ne (List.append_eq_nil_iff.mp e).1, fun p hp => ?_, ?_⟩, stOf_ok _, ?_⟩
      · rcases List.mem_append.mp hp with z | z <;> exact hd.ok p z
      · show tot (dr.1 ++ dr.1) ≤ 240
        rw [tot_app]; omega
      · show (thr (dr.1 ++ dr.1)).length ≤ 240
        rw [thr_app, List.length_append]; omega
    · refine ⟨hd, stOf_ok _, Nat.le_trans (layW_len _ _) ?_⟩
      show 2 * (thr dr.1).length ≤ 240
      omega
end PL

set_option Elab.async false
set_option linter.all false
set_option maxRecDepth 100000
set_option maxHeartbeats 1000000
namespace Hd
open PySem PySem.Spec PyProof.Rows L2 PL
section
variable {Pg : Program} {w : World} {K : PySem.W.Frag} {mg : Str → Option Value} {base : Heap}
def spLaw (K : PySem.W.Frag) : Sp := fun vs H Q _ => ∃ (a : Addr) (ns : List Int), vs = [.ref a] ∧ SqL K H a (ns.map V.int) ∧ ∀ H', Q (.bl true) H'
theorem law_ok {qual : Str} {params : Arguments} {body : List Stmt} {scope : Scope} {dvs : List V} {kws : List (Str × V)} {f : Addr} {fd : FuncData} {x p : Str} {N : List Str} {k : Nat} (FD : FunD K x qual params body scope dvs kws f fd) (Sc : FnScope N [p] scope) (hn : 1 ≤ N.length)
    (hb : ∀ cd A outer s H E, Gd k (cxOf CX0 Pg w K mg base N qual scope f cd A outer s H E) → ∀ ns : List Int, ∃ Γ', Ends1 (cxOf CX0 Pg w K mg base N qual scope f cd A outer s H E) (ent N [.fls (ns.map D.int)]) body (.sh (.bl true)) Γ') : FnOk Pg w K mg base CX0 (k + 1) f fd [p] (spLaw K) := by
  refine FD.ok Sc (fun vs H Q E h => ?_) (fun cd A outer s H vs Q E hr h => ?_)
  · obtain ⟨a, ns, rfl, _⟩ := h; rfl
  · obtain ⟨a, ns, rfl, hS, q⟩ := h
    obtain ⟨Γ', e1⟩ := hb cd A outer s H E ⟨rfl, Sc.nd, PassesOwn.leaving, hr⟩ ns
    have hr0 : Reps K H [D.fls (ns.map D.int)] [V.ref a] := .one ⟨a, _, rfl, hS, Reps.ofInts⟩
    refine ⟨_, ws_pss, e1.run (rs_start (K := K) (S := H) (.refl _) hr0 hn) fun v σ' H' S' R' s' ok => ?_⟩
    rw [show v = V.bl true from ok]
    exact q H'
theorem rg2 {J : Int} (h0 : 1 ≤ J) (h1 : J ≤ 20) : RgC 0 J 2 ((J + 1) / 2).toNat := by
  have key : ∀ j : _root_.Fin 20, RgC 0 ((j.val : Int) + 1) 2 (((j.val : Int) + 1 + 1) / 2).toNat := by
    intro j
    refine ⟨by decide, by decide, ?_, ?_⟩
    · revert j; decide +kernel
    · revert j; decide +kernel
  have := key ⟨(J - 1).toNat, by omega⟩
  rw [show (((J - 1).toNat : Nat) : Int) + 1 = J by omega] at this
  exact this
/-- how many cells are gone through: at least a, at most b -/
def cells (a b n : Int) : Int := if (if b < n then b else n) > a then (if b < n then b else n) else a
theorem cells_ok {a b n : Int} (h : 0 ≤ a) (hab : a ≤ b) : a ≤ cells a b n ∧ cells a b n ≤ b := by
  unfold cells
  split <;> (try split) <;> omega
def pw (n L : Int) : Nat → Int
  | 0 => n
  | j + 1 => pw n L j / L
abbrev po (n : Int) : Ob := .lst [.int n]
theorem c_law {f : Addr} {fd : FuncData} (FD : FunD K "law" "law" (defArgs s_law) (defBody s_law) (defScope s_law) [] [] f fd) (T : Bt mg) (G_pool : C0 Pg w K mg base "_law_pool" 1 ["_law_script", "_law_k"] P_pool) (G_take : C1 Pg w K mg base "_law_take" 1 ["_law_pool_here", "_law_many"] P_take) (G_shades : C1 Pg w K mg base "_law_some_shades" 2 ["_law_pool_here", "_law_many"] P_shades) (G_drawn : C1 Pg w K mg base "_law_drawn_stripes" 2 ["_law_pool_here", "_law_shades", "_law_most", "_law_wide"] P_drawn) (G_lthreads : C0 Pg w K mg base "_law_threads" 1 ["_law_stripes"] P_lthreads) (G_to : C0 Pg w K mg base "threads_of" 5 ["stripes"] P_threads_of) (G_so : Ce Pg w K mg base "stripes_of" 4 ["threads"] (P_stripes_of (He.ga K "NoThreads"))) (G_fewest : C0 Pg w K mg base "_law_are_fewest" 2 ["_law_words", "_law_found"] P_fewest) (G_refused : C0 Pg w K mg base "_law_refused" 5 ["_law_thing"] P_refused) (G_noth : C1 Pg w K mg base "_law_no_threads" 2 ["_law_pool_here", "_law_words"] P_noth) :
    FnOk Pg w K mg base CX0 7 f fd ["_law_script"] (spLaw K) := by
  refine law_ok (k := 6) FD sc_law (by decide) fun cd A outer s H E g ns => ?_
  obtain ⟨J1, J2⟩ := cells_ok (a := 2) (b := 12) (n := ((ns.map D.int).length : Int)) (by decide) (by decide)
  refine ends_rt (s_cons (s1_for g (it_range1 (j := cells 2 12 ((ns.map D.int).length : Int)) T.range (a_cons (e_callB (c_max2 g.calm) T.max b_max (a_cons e_int (a_cons (e_callB (c_min2 g.calm) T.min b_min (a_cons (e_callB c_lenF T.len b_len (a_cons (e_var 0) a_nil)) (a_cons e_int a_nil))) a_nil))) a_nil) (by omega) (by omega))
    (fun _ => [.sh (.fls (ns.map D.int)), .un, .un, .un, .un, .un, .un, .un, .un, .un, .un]) (fun j => [.sh (.fls (ns.map D.int)), .sh (.int (j : Nat)), .un, .un, .un, .un, .un, .un, .un, .un, .un]) .refl (fun j hj => g_name 1 g.nd) (fun j hj => .inl ?_)) (s_one (s1_ret e_bl)))
  have hj' : j < 1000 := by omega
  have hz := big2000
  generalize hn0 : poolV (cellV ns j) j = n0
  have m0 := Int.emod_nonneg n0 (b := 5) (by decide)
  have m1 := Int.emod_lt_of_pos n0 (b := 5) (by decide)
  have hsk := shIt_ok (n0 / 5) (1 + n0 % 5).toNat (by omega)
  have e4 : 1 + n0 % 5 = (((1 + n0 % 5).toNat : Nat) : Int) := by omega
  refine s_cons (Γ1 := [.sh (.fls (ns.map D.int)), .sh (.int (j : Nat)), .ow (po n0), .un, .un, .un, .un, .un, .un, .un, .un]) ?_ ?_
  · rw [← hn0]
    exact s1_set 2 g.nd (e_c0 G_pool g (a_cons (e_var 0) (a_cons (e_var 1) a_nil)) ⟨ns, j, hj', rfl, rfl⟩)
  obtain ⟨S0, hS⟩ : ∃ S, S = shIt (n0 / 5) (1 + n0 % 5).toNat := ⟨_, rfl⟩
  have hP : P_shades (po (n0 / 5)) [.int ((1 + n0 % 5).toNat : Nat)] (.sh (dL S0.1)) (po S0.2) := ⟨n0 / 5, (1 + n0 % 5).toNat, by omega, rfl, rfl, by rw [hS], by rw [hS]⟩
  rw [← hS] at hsk
  refine s_cons (Γ1 := [.sh (.fls (ns.map D.int)), .sh (.int (j : Nat)), .ow (po S0.2), .sh (dL S0.1), .un, .un, .un, .un, .un, .un, .un]) ?_ ?_
  · exact s1_set 3 g.nd (e_c1 2 G_shades g has_ow (a_cons (e_eq (e_bin o_addI e_int (e_c1 2 G_take g has_ow (a_cons e_int a_nil) has_ow ⟨n0, 5, by decide, by decide, rfl, rfl, rfl, rfl⟩)) (congrArg (fun z => Rs.sh (D.int z)) e4)) a_nil) has_ow hP)
  clear hP hS
  obtain ⟨sh, n2⟩ := S0
  obtain ⟨hsl, hso⟩ := hsk
  replace hsl : sh.length = (1 + n0 % 5).toNat := hsl
  replace hso : ∀ x ∈ sh, okW 1 3 x := hso
  have hs0 : 0 < sh.length := by omega
  have hs1 : sh.length ≤ 5 := by omega
  clear hsl e4 hn0
  show SX _ [.sh (.fls (ns.map D.int)), .sh (.int (j : Nat)), .ow (po n2), .sh (dL sh), .un, .un, .un, .un, .un, .un, .un] _ _
  have w0 := Int.emod_nonneg n2 (b := 3) (by decide)
  have w1 := Int.emod_lt_of_pos n2 (b := 3) (by decide)
  have hw : ∃ wd : Int, atI [D.int 3, .int 3, .int 20] (n2 % 3) = some (.int wd) ∧ 0 < wd ∧ wd ≤ 20 := by
    rcases (by omega : n2 % 3 = 0 ∨ n2 % 3 = 1 ∨ n2 % 3 = 2) with h | h | h <;> rw [h]
    · exact ⟨3, rfl, by decide, by decide⟩
    · exact ⟨3, rfl, by decide, by decide⟩
    · exact ⟨20, rfl, by decide, by decide⟩
  obtain ⟨wd, hwd, wd0, wd1⟩ := hw
  have hst := drawn_ok (most := 12) (n2 / 3) hs0 (by decide) wd0 hso (by omega)
  obtain ⟨M, hM⟩ : ∃ M, M = drawn sh 12 wd (n2 / 3) := ⟨_, rfl⟩
  have hD : P_drawn (po (n2 / 3)) [dL sh, .int 12, .int wd] (.sh (dS M.1)) (po M.2) := ⟨n2 / 3, sh, 12, wd, hs0, by omega, by decide, by decide, wd0, by omega, rfl, rfl, by rw [hM], by rw [hM]⟩
  rw [← hM] at hst
  refine s_cons (Γ1 := [.sh (.fls (ns.map D.int)), .sh (.int (j : Nat)), .ow (po M.2), .sh (dL sh), .sh (dS M.1), .un, .un, .un, .un, .un, .un]) ?_ ?_
  · exact s1_set 4 g.nd (e_c1 2 G_drawn g has_ow (a_cons (e_var 3) (a_cons e_int (a_cons (e_ix (e_fz (e_lst (a_cons e_int (a_cons e_int (a_cons e_int a_nil))))) (e_c1 2 G_take g has_ow (a_cons e_int a_nil) has_ow ⟨n2, 3, by decide, by decide, rfl, rfl, rfl, rfl⟩) (i_list hwd)) a_nil))) has_ow hD)
  clear hD hM hwd
  obtain ⟨ps, n4⟩ := M
  replace hst : OkSt ps := hst
  show SX _ [.sh (.fls (ns.map D.int)), .sh (.int (j : Nat)), .ow (po n4), .sh (dL sh), .sh (dS ps), .un, .un, .un, .un, .un, .un] _ _
  have hts := thr_shs hst.ok
  obtain ⟨t0, t1⟩ := hst.len
  refine s_cons (Γ1 := [.sh (.fls (ns.map D.int)), .sh (.int (j : Nat)), .ow (po n4), .sh (dL sh), .sh (dS ps), .sh (dT (thr ps)), .un, .un, .un, .un, .un]) ?_ ?_
  · exact s1_set 5 g.nd (e_callTy c_tupL T.tuple b_tuple (a_cons (e_c0 G_lthreads g (a_cons (e_var 4) a_nil) ⟨ps, hst, rfl, rfl⟩) a_nil))
  refine s_cons (Γ1 := [.sh (.fls (ns.map D.int)), .sh (.int (j : Nat)), .ow (po n4), .sh (dL sh), .sh (dS ps), .sh (dT (thr ps)), .sh (dT (thr ps)), .un, .un, .un, .un]) ?_ ?_
  · exact s1_set 6 g.nd (e_c0 G_to g (a_cons (e_var 4) a_nil) ⟨ps, hst, rfl, rfl⟩)
  generalize thr ps = ts at hts t0 t1
  have so : ∀ us : List Str, Shs us → 0 < us.length → us.length ≤ 240 → P_stripes_of (He.ga K "NoThreads") [dT us] (.ok (.sh (dS (mrg us)))) := fun us h1 h2 h3 => .inl ⟨us, h1, h2, h3, rfl, rfl⟩
  refine s_ifN (t_w (w_orF (t_eq (t_not (t_val (e_callB (c_isTup (d := dT ts) rfl) T.isinstance b_isinstance (a_cons (e_var 6) (a_cons (e_ty T.tuple b_tuple) a_nil))))) rfl) (w_orF (t_eq (t_cmp (o_neT (xs := ts) (ys := ts) g.rm.units hts.ok hts.ok) (e_var 6) (e_var 5)) (by rw [decide_eq_true rfl]; rfl)) (w_or1 (t_eq (t_not (t_val (e_c0 G_fewest g (a_cons (e_var 5) (a_cons (e_ce G_so g (a_cons (e_var 6) a_nil) (so ts hts t0 t1)) a_nil)) ⟨ts, hts, t0, t1, rfl, rfl⟩))) rfl))))) ?_
  have a0 := Int.emod_nonneg n4 (b := 12) (by decide)
  have a1 := Int.emod_lt_of_pos n4 (b := 12) (by decide)
  have b0 := Int.emod_nonneg (n4 / 12) (b := 60) (by decide)
  have b1 := Int.emod_lt_of_pos (n4 / 12) (b := 60) (by decide)
  have c0 := Int.emod_nonneg (n4 / 12 / 60) (b := 12) (by decide)
  have c1 := Int.emod_lt_of_pos (n4 / 12 / 60) (b := 12) (by decide)
  have hz2 : ∃ sz : Int, atI [D.int (1 + n4 % 12), .int (1 + n4 / 12 % 60), .int 240] (n4 / 12 / 60 % 12 / 5) = some (.int sz) ∧ 0 < sz ∧ sz ≤ 240 := by
    rcases (by omega : n4 / 12 / 60 % 12 / 5 = 0 ∨ n4 / 12 / 60 % 12 / 5 = 1 ∨ n4 / 12 / 60 % 12 / 5 = 2) with h | h | h <;> rw [h]
    · exact ⟨_, rfl, by omega, by omega⟩
    · exact ⟨_, rfl, by omega, by omega⟩
    · exact ⟨_, rfl, by omega, by omega⟩
  obtain ⟨sz, hsz, sz0, sz1⟩ := hz2
  refine s_cons (Γ1 := [.sh (.fls (ns.map D.int)), .sh (.int (j : Nat)), .ow (po (n4 / 12 / 60 / 12)), .sh (dL sh), .sh (dS ps), .sh (dT ts), .sh (dT ts), .sh (.int sz), .un, .un, .un]) ?_ ?_
  · exact s1_set 7 g.nd (e_ix (e_fz (e_lst (a_cons (e_bin o_addI e_int (e_c1 2 G_take g has_ow (a_cons e_int a_nil) has_ow ⟨_, 12, by decide, by decide, rfl, rfl, rfl, rfl⟩)) (a_cons (e_bin o_addI e_int (e_c1 2 G_take g has_ow (a_cons e_int a_nil) has_ow ⟨_, 60, by decide, by decide, rfl, rfl, rfl, rfl⟩)) (a_cons e_int a_nil))))) (e_bin (o_fdiv (j := 5) ⟨by decide, by decide⟩) (e_c1 2 G_take g has_ow (a_cons e_int a_nil) has_ow ⟨_, 12, by decide, by decide, rfl, rfl, rfl, rfl⟩) e_int) (i_list hsz))
  clear hsz a0 a1 b0 b1 c0 c1
  generalize n4 / 12 / 60 / 12 = n5
  have hshn : ((sh.map D.str).length : Int) = (sh.length : Int) := by rw [List.length_map]
  have hB := le1000 (m := (sh.length : Int)) (by omega)
  have hwq : ∃ ws : List Str, ws.length = sz.toNat ∧ Shs ws ∧ (List.range sz.toNat).map (fun j => D.str (sh.getD (pw n5 (sh.length : Int) j % (sh.length : Int)).toNat default)) = ws.map .str := by
    refine ⟨(List.range sz.toNat).map fun j => sh.getD (pw n5 (sh.length : Int) j % (sh.length : Int)).toNat default, by rw [List.length_map, List.length_range], fun t ht => ?_, by rw [List.map_map]; rfl⟩
    obtain ⟨j, _, rfl⟩ := List.mem_map.mp ht
    have q0 := Int.emod_nonneg (pw n5 (sh.length : Int) j) (b := (sh.length : Int)) (by omega)
    have q1 := Int.emod_lt_of_pos (pw n5 (sh.length : Int) j) (b := (sh.length : Int)) (by omega)
    apply okW_shade
    apply hso
    rw [List.getD_eq_getElem?_getD, List.getElem?_eq_getElem (by omega)]
    exact List.getElem_mem _
  obtain ⟨ws, wl, wsh, wq⟩ := hwq
  have v0 : 0 < ws.length := by omega
  have v1 : ws.length ≤ 240 := by omega
  refine s_cons (Γ1 := [.sh (.fls (ns.map D.int)), .sh (.int (j : Nat)), .ow (po (pw n5 (sh.length : Int) sz.toNat)), .sh (dL sh), .sh (dS ps), .sh (dT ts), .sh (dT ts), .sh (.int sz), .un, .sh (dT ws), .un]) ?_ ?_
  · refine s1_set 9 g.nd (e_callTy c_tupL T.tuple b_tuple (a_cons (e_fz (e_eq (e_lc g (lcG (n := sz.toNat) (f := fun j => .str (sh.getD (pw n5 (sh.length : Int) j % (sh.length : Int)).toNat default)) 8 (fun q => [.sh (.fls (ns.map D.int)), .sh (.int (j : Nat)), .ow (po (pw n5 (sh.length : Int) q)), .sh (dL sh), .sh (dS ps), .sh (dT ts), .sh (dT ts), .sh (.int sz), .un, .un, .un]) (fun q => [.sh (.fls (ns.map D.int)), .sh (.int (j : Nat)), .ow (po (pw n5 (sh.length : Int) (q + 1))), .sh (dL sh), .sh (dS ps), .sh (dT ts), .sh (dT ts), .sh (.int sz), .sh (.int (q : Nat)), .un, .un]) g (it_range1 (j := sz) T.range (a_cons (e_var 7) a_nil) (by omega) (by omega)) (by omega) (blkOk_by (N := N_law) (sc := defScope s_law) (by decide +kernel)) .refl (fun j hj => rfl) (fun q hq s1 H1 C1 cl fp => ?_) (fun j hj => Wk.cv (.keep (.keep (.keep (.keep (.keep (.keep (.keep (.keep (.drop (.keep (.keep .nil))))))))))))) ) (by rw [took_all, wq]))) a_nil))
    have q0 := Int.emod_nonneg (pw n5 (sh.length : Int) q) (b := (sh.length : Int)) (by omega)
    have q1 := Int.emod_lt_of_pos (pw n5 (sh.length : Int) q) (b := (sh.length : Int)) (by omega)
    show EX _ [.sh (.fls (ns.map D.int)), .sh (.int (j : Nat)), .ow (po (pw n5 (sh.length : Int) q)), .sh (dL sh), .sh (dS ps), .sh (dT ts), .sh (dT ts), .sh (.int sz), .sh (.int (q : Nat)), .un, .un] _ _ [.sh (.fls (ns.map D.int)), .sh (.int (j : Nat)), .ow (po (pw n5 (sh.length : Int) q / (sh.length : Int))), .sh (dL sh), .sh (dS ps), .sh (dT ts), .sh (dT ts), .sh (.int sz), .sh (.int (q : Nat)), .un, .un]
    exact e_ix (e_var 3) (e_c1 2 G_take (Gd.blk g) has_ow (a_cons (e_eq (e_callB c_lenL T.len b_len (a_cons (e_var 3) a_nil)) (congrArg (fun z => Rs.sh (D.int z)) hshn)) a_nil) has_ow ⟨pw n5 (sh.length : Int) q, (sh.length : Int), by omega, hB, rfl, rfl, rfl, rfl⟩) (i_dL (atI_ok q0 q1))
  generalize pw n5 (sh.length : Int) sz.toNat = n6
  have hth := (mrg_inv ws).th
  have hmo := mrg_ok wsh v0 v1
  refine s_cons (Γ1 := [.sh (.fls (ns.map D.int)), .sh (.int (j : Nat)), .ow (po n6), .sh (dL sh), .sh (dS ps), .sh (dT ts), .sh (dT ts), .sh (.int sz), .un, .sh (dT ws), .un]) (s1_for g (it_range1 (j := 2) T.range (a_cons e_int a_nil) (by decide) (by decide)) (fun _ => [.sh (.fls (ns.map D.int)), .sh (.int (j : Nat)), .ow (po n6), .sh (dL sh), .sh (dS ps), .sh (dT ts), .sh (dT ts), .sh (.int sz), .un, .sh (dT ws), .un]) (fun q => [.sh (.fls (ns.map D.int)), .sh (.int (j : Nat)), .ow (po n6), .sh (dL sh), .sh (dS ps), .sh (dT ts), .sh (dT ts), .sh (.int sz), .sh (.int (q : Nat)), .sh (dT ws), .un]) .refl (fun q hq => g_name 8 g.nd) (fun q hq => .inl ?_)) ?_
  · have P2 : P_threads_of [dS (mrg ws)] (.sh (dT ws)) := ⟨mrg ws, hmo, rfl, by rw [hth]⟩
    refine s_wk (Γ1 := [.sh (.fls (ns.map D.int)), .sh (.int (j : Nat)), .ow (po n6), .sh (dL sh), .sh (dS ps), .sh (dT ts), .sh (dT ts), .sh (.int sz), .sh (.int (q : Nat)), .sh (dT ws), .un]) (s_ifN (t_w (w_orF (t_eq (t_not (t_val (e_c0 G_fewest g (a_cons (e_var 9) (a_cons (e_ce G_so g (a_cons (e_var 9) a_nil) (so ws wsh v0 v1)) a_nil)) ⟨ws, wsh, v0, v1, rfl, rfl⟩))) rfl) (w_or1 (t_eq (t_cmp (o_neT (xs := ws) (ys := ws) g.rm.units wsh.ok wsh.ok) (e_c0 G_to g (a_cons (e_ce G_so g (a_cons (e_var 9) a_nil) (so ws wsh v0 v1)) a_nil) P2) (e_var 9)) (by rw [decide_eq_true rfl]; rfl))))) s_nil) ?_
    exact Wk.cv (.keep (.keep (.keep (.keep (.keep (.keep (.keep (.keep (.drop (.keep (.keep .nil)))))))))))
  have hN : P_noth (po n6) [dT ws] (.sh (.lst (nothL n6 ws))) (po (n6 / (ws.length : Int))) := ⟨n6, ws, wsh, v0, v1, rfl, rfl, rfl, rfl⟩
  have hbad := noth_bad n6 wsh v0 v1
  have hnl : (nothL n6 ws).length ≤ 1000 := by
    unfold nothL
    rw [List.length_append, List.length_map, List.length_range]
    exact Nat.le_of_ble_eq_true rfl
  generalize nothL n6 ws = L at hN hbad hnl
  generalize n6 / (ws.length : Int) = n7 at hN
  refine s_wk (Γ1 := [.sh (.fls (ns.map D.int)), .sh (.int (j : Nat)), .ow (po n7), .sh (dL sh), .sh (dS ps), .sh (dT ts), .sh (dT ts), .sh (.int sz), .un, .sh (dT ws), .un]) (s_ifN (t_eq (t_not (t_val (e_callB (c_allR (n := L.length) (b := fun _ => true) g.calm) T.all b_all (a_cons (e_fz (e_lc1 10 (fun _ => .bl true) g (it_list (e_c1 2 G_noth g has_ow (a_cons (e_var 9) a_nil) has_ow hN)) (by omega) (blkOk_by (N := N_law) (sc := defScope s_law) (by decide +kernel)) rfl (fun q hq s1 H1 C1 cl fp => ?_))) a_nil)))) ?_) s_nil) ?_
  · exact e_c0 G_refused g.blk (a_cons (e_var 10) a_nil) ⟨itd L q, hbad _ (itd_mem hq), rfl, rfl⟩
  · rw [show (List.range L.length).all (fun _ => true) = true from List.all_eq_true.mpr fun _ _ => rfl]; rfl
  · exact Wk.cv (.keep (.drop (.drop (.drop (.drop (.drop (.drop (.drop (.keep (.drop (.keep .nil)))))))))))
end
end Hd

set_option Elab.async false
set_option linter.all false
set_option maxRecDepth 100000
set_option maxHeartbeats 0
namespace Hd
open PySem PySem.Spec PyProof.Rows L2 PL
def fn : List He.DefD := [d_is_whole, d_is_word, d_is_shade, d_is_stripe, d_check_stripes, d_threads_of, d_are_threads, d_merged, d_stripes_of, d__law_pool, d__law_take, d__law_some_shades, d__law_drawn_stripes, d__law_threads, d__law_sort, d__law_whole, d__law_are_fewest, d__law_refused, d__law_no_threads, d_law]
def fa0 : List He.Fa := [.glo "NoBox", .glo "NoCut", .glo "NoManner", .glo "NoName", .glo "NoNumber", .glo "NoOrder", .glo "NoShade", .glo "NoSpot", .glo "NoStep", .glo "NoStripes", .glo "NoText", .glo "NoThreads", .glo "NoUndo", .glo "NoWay", .glo "NoWeave", .glo "ShadeError", .glo "SpotError", .glo "StepError", .glo "StripeError", .glo "TooLong", .glo "TooMany", .glo "WayError", .glo "_law_are_fewest", .glo "_law_drawn_stripes", .glo "_law_no_threads", .glo "_law_pool", .glo "_law_refused", .glo "_law_some_shades", .glo "_law_sort", .glo "_law_take"]
def fa1 : List He.Fa := [.glo "_law_threads", .glo "_law_whole", .glo "are_threads", .glo "check_stripes", .glo "is_shade", .glo "is_stripe", .glo "is_whole", .glo "is_word", .glo "law", .glo "merged", .glo "stripes_of", .glo "threads_of", .int "MOST" 240, .str "LETTERS" "abcdefghijklmnopqrstuvwxyz"]
def fa : List He.Fa := (fa0 ++ fa1) ++ bltNames.map He.Fa.free
def loose0 : List PySem.Str := ["LETTERS", "MOST", "NoBox", "NoCut", "NoManner", "NoName", "NoNumber", "NoOrder", "NoShade", "NoSpot", "NoStep", "NoStripes", "NoText", "NoThreads", "NoUndo", "NoWay", "NoWeave", "ShadeError", "SpotError", "StepError", "StripeError", "TooLong", "TooMany", "WayError", "_law_are_fewest", "_law_drawn_stripes", "_law_no_threads", "_law_pool", "_law_refused", "_law_some_shades"]
def loose1 : List PySem.Str := ["_law_sort", "_law_take", "_law_threads", "_law_whole", "are_threads", "check_stripes", "is_shade", "is_stripe", "is_whole", "is_word", "merged", "stripes_of", "threads_of"]
def loose : List PySem.Str := loose0 ++ loose1
abbrev R : PySem.W.OpenRow := PySem.W.OpenLaw.row PySem.Challenge.rw_stripelay_k02_threads_and_stripes
def lawI : Nat := 46
def tabs : List He.Tab := []
def kvs : List (Str × He.Dv) := []
def icl : List Str := []
def nfl : List Str := []
def iot : List (Str × Str) := []
def rki : List Nat := [1]
def rxc : List Str := ["NoThreads"]
def obsM (K : PySem.W.Frag) : He.AlT × Bool := (He.obsT fa fn tabs K, (He.valsB K (He.ga K "MANNERS") kvs && (icl.all (PL.insB K) && (iot.all (PL.othB K) && nfl.all (PL.nfB K)))) && (rki.all (PL.srtB K) && rxc.all (PL.xcVB K)))
def hk : PySem.W.Hook where
  α := He.AlT × Bool
  obs := fun s => obsM (He.frG s.heap.get? (He.asD s.heap.get? 5))
  val := fun w => (He.valT fn tabs w, true)
  says := fun w h => ∃ K : PySem.W.Frag, K.In h ∧ obsM K = (He.valT fn tabs w, true)
  of := fun _ _ e => ⟨_, He.frG_in, e⟩
  keeps := fun _ _ _ ⟨K, hK, c⟩ k => ⟨K, PySem.W.Frag.In.keeps hK k, c⟩
def ob (s : PySem.W.SharedT) : He.AlT × Bool := obsM (He.frG (HandSHeadRun.getT s) (He.asD (HandSHeadRun.getT s) 5))
theorem ob_eq (s : PySem.W.SharedT) : ob s = hk.obs s.abs := by
  have e : HandSHeadRun.getT s = s.abs.heap.get? := funext (HandSHeadRun.getT_eq s)
  show obsM (He.frG (HandSHeadRun.getT s) (He.asD (HandSHeadRun.getT s) 5)) = obsM (He.frG s.abs.heap.get? (He.asD s.abs.heap.get? 5))
  rw [e]
theorem runF (w : World) : HandSHeadRun.RunEq R (PySem.W.view R.prog [46]) hk ob 30000 loose (w.withFollow "special-get-raises" false) := by
  intro os
  kernel_rfl
theorem runT (w : World) : HandSHeadRun.RunEq R (PySem.W.view R.prog [46]) hk ob 30000 loose (w.withFollow "special-get-raises" true) := by
  intro os
  kernel_rfl
theorem run (w : World) : HandSHeadRun.RunEq R (PySem.W.view R.prog [46]) hk ob 30000 loose w := PySem.W.byRow2 "special-get-raises" (P := fun w => HandSHeadRun.RunEq R (PySem.W.view R.prog [46]) hk ob 30000 loose w) runF runT w
theorem he_mem {K : PySem.W.Frag} {f : He.Fa} (c : He.SaysD fa fn K) (h : f ∈ fa) : f.ok K = true := List.all_eq_true.mp (He.ba (show ((fa.all fun f => f.ok K) && fn.all fun d => d.ok K) = true from congrArg (fun z : He.AlD => z.1) c)).1 f h
structure Fx (K : PySem.W.Frag) (w : World) (mg : Str → Option Value) : Prop where
  D_is_whole : Df K mg "is_whole" s_is_whole []
  D_is_word : Df K mg "is_word" s_is_word []
  D_is_shade : Df K mg "is_shade" s_is_shade []
  D_is_stripe : Df K mg "is_stripe" s_is_stripe []
  D_check_stripes : Df K mg "check_stripes" s_check_stripes []
  D_threads_of : Df K mg "threads_of" s_threads_of []
  D_are_threads : Df K mg "are_threads" s_are_threads []
  D_merged : Df K mg "merged" s_merged []
  D_stripes_of : Df K mg "stripes_of" s_stripes_of []
  D__law_pool : Df K mg "_law_pool" s__law_pool []
  D__law_take : Df K mg "_law_take" s__law_take []
  D__law_some_shades : Df K mg "_law_some_shades" s__law_some_shades []
  D__law_drawn_stripes : Df K mg "_law_drawn_stripes" s__law_drawn_stripes []
  D__law_threads : Df K mg "_law_threads" s__law_threads []
  D__law_sort : Df K mg "_law_sort" s__law_sort []
  D__law_whole : Df K mg "_law_whole" s__law_whole []
  D__law_are_fewest : Df K mg "_law_are_fewest" s__law_are_fewest []
  D__law_refused : Df K mg "_law_refused" s__law_refused []
  D__law_no_threads : Df K mg "_law_no_threads" s__law_no_threads []
  D_law : Df K mg "law" s_law []
  I_MOST : ∃ t, mg "MOST" = some (.int 240 t)
  S_LETTERS : ∃ t, mg "LETTERS" = some (.str "abcdefghijklmnopqrstuvwxyz" t)
  T : Bt mg
  R_1 : Srt K 1
  X_NoThreads : Xc K mg "NoThreads" (He.ga K "NoThreads")
  GK : Gk K mg
theorem fx_of {w : World} {K : PySem.W.Frag} {h : Heap} {mg : Str → Option Value} (X : K.In h) (G : h.Ns mainGlobals mg) (cc : obsM K = (He.valT fn tabs w, true)) : Fx K w mg := by
  have cT : He.SaysT fa fn tabs w K := congrArg Prod.fst cc
  have cWW : ((He.valsB K (He.ga K "MANNERS") kvs && (icl.all (PL.insB K) && (iot.all (PL.othB K) && nfl.all (PL.nfB K)))) && (rki.all (PL.srtB K) && rxc.all (PL.xcVB K))) = true := congrArg Prod.snd cc
  obtain ⟨cVV, cRX⟩ := He.ba cWW
  obtain ⟨cR, cX⟩ := He.ba cRX
  obtain ⟨cV, cIO⟩ := He.ba cVV
  obtain ⟨cI, cON⟩ := He.ba cIO
  obtain ⟨cO, cN⟩ := He.ba cON
  have c : He.SaysD fa fn K := cT.d
  exact {
    D_is_whole := by
      obtain ⟨fd, F⟩ := c.def_ 0 (d := d_is_whole) rfl
      exact ⟨⟨_, fd, F, He.glo_ok X G (c.fact 36 (f := .glo "is_whole") rfl)⟩⟩
    D_is_word := by
      obtain ⟨fd, F⟩ := c.def_ 1 (d := d_is_word) rfl
      exact ⟨⟨_, fd, F, He.glo_ok X G (c.fact 37 (f := .glo "is_word") rfl)⟩⟩
    D_is_shade := by
      obtain ⟨fd, F⟩ := c.def_ 2 (d := d_is_shade) rfl
      exact ⟨⟨_, fd, F, He.glo_ok X G (c.fact 34 (f := .glo "is_shade") rfl)⟩⟩
    D_is_stripe := by
      obtain ⟨fd, F⟩ := c.def_ 3 (d := d_is_stripe) rfl
      exact ⟨⟨_, fd, F, He.glo_ok X G (c.fact 35 (f := .glo "is_stripe") rfl)⟩⟩
    D_check_stripes := by
      obtain ⟨fd, F⟩ := c.def_ 4 (d := d_check_stripes) rfl
      exact ⟨⟨_, fd, F, He.glo_ok X G (c.fact 33 (f := .glo "check_stripes") rfl)⟩⟩
    D_threads_of := by
      obtain ⟨fd, F⟩ := c.def_ 5 (d := d_threads_of) rfl
      exact ⟨⟨_, fd, F, He.glo_ok X G (c.fact 41 (f := .glo "threads_of") rfl)⟩⟩
    D_are_threads := by
      obtain ⟨fd, F⟩ := c.def_ 6 (d := d_are_threads) rfl
      exact ⟨⟨_, fd, F, He.glo_ok X G (c.fact 32 (f := .glo "are_threads") rfl)⟩⟩
    D_merged := by
      obtain ⟨fd, F⟩ := c.def_ 7 (d := d_merged) rfl
      exact ⟨⟨_, fd, F, He.glo_ok X G (c.fact 39 (f := .glo "merged") rfl)⟩⟩
    D_stripes_of := by
      obtain ⟨fd, F⟩ := c.def_ 8 (d := d_stripes_of) rfl
      exact ⟨⟨_, fd, F, He.glo_ok X G (c.fact 40 (f := .glo "stripes_of") rfl)⟩⟩
    D__law_pool := by
      obtain ⟨fd, F⟩ := c.def_ 9 (d := d__law_pool) rfl
      exact ⟨⟨_, fd, F, He.glo_ok X G (c.fact 25 (f := .glo "_law_pool") rfl)⟩⟩
    D__law_take := by
      obtain ⟨fd, F⟩ := c.def_ 10 (d := d__law_take) rfl
      exact ⟨⟨_, fd, F, He.glo_ok X G (c.fact 29 (f := .glo "_law_take") rfl)⟩⟩
    D__law_some_shades := by
      obtain ⟨fd, F⟩ := c.def_ 11 (d := d__law_some_shades) rfl
      exact ⟨⟨_, fd, F, He.glo_ok X G (c.fact 27 (f := .glo "_law_some_shades") rfl)⟩⟩
    D__law_drawn_stripes := by
      obtain ⟨fd, F⟩ := c.def_ 12 (d := d__law_drawn_stripes) rfl
      exact ⟨⟨_, fd, F, He.glo_ok X G (c.fact 23 (f := .glo "_law_drawn_stripes") rfl)⟩⟩
    D__law_threads := by
      obtain ⟨fd, F⟩ := c.def_ 13 (d := d__law_threads) rfl
      exact ⟨⟨_, fd, F, He.glo_ok X G (c.fact 30 (f := .glo "_law_threads") rfl)⟩⟩
    D__law_sort := by
      obtain ⟨fd, F⟩ := c.def_ 14 (d := d__law_sort) rfl
      exact ⟨⟨_, fd, F, He.glo_ok X G (c.fact 28 (f := .glo "_law_sort") rfl)⟩⟩
    D__law_whole := by
      obtain ⟨fd, F⟩ := c.def_ 15 (d := d__law_whole) rfl
      exact ⟨⟨_, fd, F, He.glo_ok X G (c.fact 31 (f := .glo "_law_whole") rfl)⟩⟩
    D__law_are_fewest := by
      obtain ⟨fd, F⟩ := c.def_ 16 (d := d__law_are_fewest) rfl
      exact ⟨⟨_, fd, F, He.glo_ok X G (c.fact 22 (f := .glo "_law_are_fewest") rfl)⟩⟩
    D__law_refused := by
      obtain ⟨fd, F⟩ := c.def_ 17 (d := d__law_refused) rfl
      exact ⟨⟨_, fd, F, He.glo_ok X G (c.fact 26 (f := .glo "_law_refused") rfl)⟩⟩
    D__law_no_threads := by
      obtain ⟨fd, F⟩ := c.def_ 18 (d := d__law_no_threads) rfl
      exact ⟨⟨_, fd, F, He.glo_ok X G (c.fact 24 (f := .glo "_law_no_threads") rfl)⟩⟩
    D_law := by
      obtain ⟨fd, F⟩ := c.def_ 19 (d := d_law) rfl
      exact ⟨⟨_, fd, F, He.glo_ok X G (c.fact 38 (f := .glo "law") rfl)⟩⟩
    I_MOST := He.int_ok X G (c.fact 42 (f := .int "MOST" 240) rfl)
    S_LETTERS := He.str_ok X G (c.fact 43 (f := .str "LETTERS" "abcdefghijklmnopqrstuvwxyz") rfl)
    T := fun x hx => He.free_ok X G (he_mem c (List.mem_append_right _ (List.mem_map_of_mem hx)))
    R_1 := srtB_ok (List.all_eq_true.mp cR 1 (by simp [rki]))
    X_NoThreads := xcVB_ok (He.glo_ok X G (c.fact 11 (f := .glo "NoThreads") rfl)) (List.all_eq_true.mp cX "NoThreads" (by simp [rxc]))
    GK := ⟨fun j hj => match j, hj with | 0, _ => He.glo_ok X G (c.fact 9 (f := .glo "NoStripes") rfl) | 1, _ => He.glo_ok X G (c.fact 11 (f := .glo "NoThreads") rfl) | 2, _ => He.glo_ok X G (c.fact 2 (f := .glo "NoManner") rfl) | 3, _ => He.glo_ok X G (c.fact 19 (f := .glo "TooLong") rfl) | 4, _ => He.glo_ok X G (c.fact 10 (f := .glo "NoText") rfl) | 5, _ => He.glo_ok X G (c.fact 4 (f := .glo "NoNumber") rfl) | 6, _ => He.glo_ok X G (c.fact 0 (f := .glo "NoBox") rfl) | 7, _ => He.glo_ok X G (c.fact 20 (f := .glo "TooMany") rfl) | 8, _ => He.glo_ok X G (c.fact 12 (f := .glo "NoUndo") rfl) | 9, _ => He.glo_ok X G (c.fact 5 (f := .glo "NoOrder") rfl) | 10, _ => He.glo_ok X G (c.fact 7 (f := .glo "NoSpot") rfl) | 11, _ => He.glo_ok X G (c.fact 1 (f := .glo "NoCut") rfl) | 12, _ => He.glo_ok X G (c.fact 6 (f := .glo "NoShade") rfl) | 13, _ => He.glo_ok X G (c.fact 3 (f := .glo "NoName") rfl) | 14, _ => He.glo_ok X G (c.fact 8 (f := .glo "NoStep") rfl) | 15, _ => He.glo_ok X G (c.fact 13 (f := .glo "NoWay") rfl) | 16, _ => He.glo_ok X G (c.fact 14 (f := .glo "NoWeave") rfl) | n + 17, h => absurd h (by omega), fun j hj => match j, hj with | 0, _ => He.glo_ok X G (c.fact 18 (f := .glo "StripeError") rfl) | 1, _ => He.glo_ok X G (c.fact 16 (f := .glo "SpotError") rfl) | 2, _ => He.glo_ok X G (c.fact 15 (f := .glo "ShadeError") rfl) | 3, _ => He.glo_ok X G (c.fact 17 (f := .glo "StepError") rfl) | 4, _ => He.glo_ok X G (c.fact 21 (f := .glo "WayError") rfl) | n + 5, h => absurd h (by omega)⟩
  }
theorem facts {Pg : Program} {w : World} {K : PySem.W.Frag} {h : Heap} {mg : Str → Option Value} {f : Addr} (X : K.In h) (G : h.Ns mainGlobals mg) (hf : mg ("law" : Str) = some (.ref f)) (cc : obsM K = (He.valT fn tabs w, true)) :
    ∃ fd : FuncData, (∀ (s : Shared) (v : Value), BindsTo s fd ⟨[v], []⟩ [("_law_script", v)]) ∧ ∀ base : Heap, FnOk Pg w K mg base CX0 7 f fd ["_law_script"] (spLaw K) := by
  have F := fx_of X G cc
  obtain ⟨f', fd, FD, gm⟩ := F.D_law.ex
  rw [hf] at gm
  obtain rfl : f = f' := by cases gm; rfl
  have b := FunD.bindsA (ps := ["_law_script"]) FD fun _ _ _ _ _ _ us hl => match us, hl with | [_], _ => rfl
  refine ⟨fd, fun s v => b s [v] rfl, fun base => ?_⟩
  have k1 : C0 Pg w K mg base "is_whole" 1 ["x"] P_is_whole := c_is_whole F.D_is_whole F.T
  have k2 : C0 Pg w K mg base "is_word" 1 ["thing", "most"] P_is_word := c_is_word F.D_is_word F.T F.S_LETTERS
  have k3 : C0 Pg w K mg base "is_shade" 2 ["thing"] P_is_shade := c_is_shade F.D_is_shade k2
  have k4 : C0 Pg w K mg base "is_stripe" 3 ["thing"] P_is_stripe := c_is_stripe F.D_is_stripe F.T k3 k1
  have k5 : C0 Pg w K mg base "check_stripes" 4 ["thing"] P_check_stripes := c_check_stripes F.D_check_stripes F.T F.I_MOST k4
  have k6 : C0 Pg w K mg base "threads_of" 5 ["stripes"] P_threads_of := c_threads_of F.D_threads_of F.T k5
  have k7 : C0 Pg w K mg base "merged" 1 ["threads"] P_merged := c_merged F.D_merged F.T
  have k8 : C0 Pg w K mg base "_law_sort" 1 ["_law_caught"] (P_sort K) := c_sort F.D__law_sort F.T F.GK F.R_1
  have k9 : C0 Pg w K mg base "are_threads" 3 ["thing"] P_areT := c_areT F.D_are_threads F.T F.I_MOST k3
  have k10 : Ce Pg w K mg base "stripes_of" 4 ["threads"] (P_stripes_of (He.ga K "NoThreads")) := c_stripes_of F.D_stripes_of F.X_NoThreads k9 k7
  have k11 : C0 Pg w K mg base "_law_refused" 5 ["_law_thing"] P_refused := c_refused F.D__law_refused F.GK F.R_1 k8 k10
  have k12 : C1 Pg w K mg base "_law_take" 1 ["_law_pool_here", "_law_many"] P_take := c_take F.D__law_take F.T
  have k13 : C0 Pg w K mg base "_law_pool" 1 ["_law_script", "_law_k"] P_pool := c_pool F.D__law_pool F.T
  have k14 : C1 Pg w K mg base "_law_some_shades" 2 ["_law_pool_here", "_law_many"] P_shades := c_shades F.D__law_some_shades F.T k12
  have k15 : C1 Pg w K mg base "_law_drawn_stripes" 2 ["_law_pool_here", "_law_shades", "_law_most", "_law_wide"] P_drawn := c_drawn F.D__law_drawn_stripes F.T k12
  have k16 : C0 Pg w K mg base "_law_threads" 1 ["_law_stripes"] P_lthreads := c_lthreads F.D__law_threads
  have k17 : C0 Pg w K mg base "_law_whole" 1 ["_law_thing"] P_whole := c_whole F.D__law_whole F.T
  have k18 : C0 Pg w K mg base "_law_are_fewest" 2 ["_law_words", "_law_found"] P_fewest := c_fewest F.D__law_are_fewest F.T k17 k16
  have k19 : C1 Pg w K mg base "_law_no_threads" 2 ["_law_pool_here", "_law_words"] P_noth := c_noth F.D__law_no_threads F.T k12
  exact c_law FD F.T k13 k12 k14 k15 k16 k6 k10 k18 k11 k19
end Hd
open PySem PySem.W PySem.Calls PyProof.Rows
theorem PySem.Challenge.cw_stripelay_k02_threads_and_stripes_holds : PySem.Challenge.rw_stripelay_k02_threads_and_stripes.Holds := by
  w_on; o_law
  refine HandSHeadRun.head_any (r := OpenLaw.row PySem.Challenge.rw_stripelay_k02_threads_and_stripes) (q := view (OpenLaw.row PySem.Challenge.rw_stripelay_k02_threads_and_stripes).prog [46]) (H := Hd.hk) (ob := Hd.ob) (M := 30000) (loose := Hd.loose) (d := HandSHeadRun.topDef (OpenLaw.row PySem.Challenge.rw_stripelay_k02_threads_and_stripes).prog 46) (kwd := []) Hd.ob_eq
    (by kernel_rfl) (fun s => by kernel_rfl) Hd.run (by kernel_rfl) (by kernel_rfl) (by kernel_rfl) (by rfl) (by first | assumption | decide +kernel) (by decide +kernel) ⟨rfl, rfl, rfl, rfl, rfl, by decide +kernel⟩ ?hw ?hc
  case hw => w_witness2
  case hc =>
    refine L2.walk_ofE (l := PySem.Challenge.rw_stripelay_k02_threads_and_stripes) (n := 63) (k := 7) (x := "_law_script") (CX := L2.CX0) rfl (by decide) (by kernel_rfl) ⟨rfl, by decide, by decide⟩ ?F (fun _ _ _ _ z => z)
    intro w mg fa h Y G hmg0
    obtain ⟨K, KX, c⟩ := Y
    have hmg : mg ("law" : PySem.Str) = some (.ref fa) := by
      have e : (HandSHeadRun.topDef (OpenLaw.row PySem.Challenge.rw_stripelay_k02_threads_and_stripes).prog 46).name = ("law" : PySem.Str) := by kernel_rfl
      rw [← e]
      exact hmg0
    obtain ⟨fd, hb, hF⟩ := Hd.facts (Pg := (PySem.Challenge.rw_stripelay_k02_threads_and_stripes).prog) (w := w) KX G hmg c
    exact ⟨K, fd, Hd.spLaw K, KX, hb, fun H a ns hl _ hS => ⟨a, ns, rfl, hS, fun _ => rfl⟩, fun base _ _ => hF base⟩
