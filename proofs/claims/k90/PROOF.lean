import PyProof.Rows.All
import Wide.All
import OpenK.AllK
import Wide.FinOn
import HandS.ForMost
import HandS.ForExc
import HandS.IsInst
import HandS.Wide
import HandS.SortInts
import HandS.TupAny
import PySem.Challenge.RW_everyasked_k90_whole_stoppers_letter_by
set_option Elab.async false
set_option linter.all false
set_option maxRecDepth 100000
set_option maxHeartbeats 2000000
/-! The data layer, part a: data trees, the abstract store, what stands for what. -/
namespace DL
open PySem PySem.Spec PyProof.Rows L2

/-- data: trees that never change; ref a: a mutable object of the store -/
inductive D where
  | non | bl (b : Bool) | int (i : Int) | str (x : Str) | ref (a : Addr)
  | lst (xs : List D) | tup (xs : List D) | fro (xs : List D) | obj (C : Addr) (N : List Str) (xs : List D)
/-- mutable objects; an instance: the names of its fields, their values -/
inductive MO where
  | lst (xs : List D) | ins (C : Addr) (N : List Str) (xs : List (Option D)) | dK (kvs : List (Key × D)) | dT (kvs : List (List Key × D))
abbrev DE := List (Option D)
abbrev Sto := Addr → Option MO
def put (S : Sto) (a : Addr) (m : MO) : Sto := fun b => if b = a then some m else S b
def del (S : Sto) (a : Addr) : Sto := fun b => if b = a then none else S b
theorem put_same {S : Sto} {a : Addr} {m : MO} : put S a m a = some m := if_pos rfl
theorem put_ne {S : Sto} {a b : Addr} {m : MO} (h : b ≠ a) : put S a m b = S b := if_neg h
theorem put_put {S : Sto} {a : Addr} {m n : MO} : put (put S a m) a n = put S a n := by
  funext b; unfold put; split <;> rfl
theorem put_self {S : Sto} {a : Addr} {m : MO} (h : S a = some m) : put S a m = S := by
  funext b; unfold put; split
  · next e => rw [e, h]
  · rfl
theorem del_put {S : Sto} {a : Addr} {m : MO} (h : S a = none) : del (put S a m) a = S := by
  funext b; unfold del put
  by_cases e : b = a
  · rw [if_pos e, e, h]
  · rw [if_neg e, if_neg e]
theorem put_comm {S : Sto} {a b : Addr} {m n : MO} (h : a ≠ b) : put (put S a m) b n = put (put S b n) a m := by
  funext c; unfold put
  by_cases e1 : c = a
  · subst e1; rw [if_pos rfl, if_neg h]; rw [if_pos rfl]
  · by_cases e2 : c = b
    · rw [if_pos e2, if_neg e1, if_pos e2]
    · rw [if_neg e2, if_neg e1, if_neg e1, if_neg e2]
theorem ne_of_S {S : Sto} {a b : Addr} {m : MO} (h : S a = some m) (h' : S b = none) : a ≠ b := by
  intro e; subst e; rw [h] at h'; cases h'

mutual
def Rep (K : PySem.W.Frag) (W : Hp) : D → V → Prop
  | .non, v => v = .non
  | .bl b, v => v = .bl b
  | .int i, v => v = .int i
  | .str x, v => v = .str x
  | .ref a, v => v = .ref a
  | .lst xs, v => ∃ a vs, v = .ref a ∧ W a = some (.lst vs) ∧ Reps K W xs vs
  | .tup xs, v => ∃ a vs, v = .ref a ∧ SqT K W a vs ∧ Reps K W xs vs
  | .fro xs, v => ∃ a vs, v = .ref a ∧ SqL K W a vs ∧ Reps K W xs vs
  | .obj C N xs, v => ∃ a dx gs vs, v = .ref a ∧ W a = some (.ins C dx gs) ∧ (∀ (i : Nat) (f : Str), N[i]? = some f → gs.lookup f = vs[i]?) ∧ (∀ f : Str, f ∉ N → gs.lookup f = none) ∧ Reps K W xs vs
def Reps (K : PySem.W.Frag) (W : Hp) : List D → List V → Prop
  | [], vs => vs = []
  | d :: ds, vs => ∃ v r, vs = v :: r ∧ Rep K W d v ∧ Reps K W ds r
end
abbrev Repf (K : PySem.W.Frag) (W : Hp) (fs : List (Str × D)) (gs : List (Str × V)) : Prop := ∀ f d, fs.lookup f = some d → ∃ v, gs.lookup f = some v ∧ Rep K W d v
def Repk {κ : Type} (K : PySem.W.Frag) (W : Hp) : List (κ × D) → List (κ × V) → Prop
  | [], gs => gs = []
  | (f, d) :: ds, gs => ∃ v r, gs = (f, v) :: r ∧ Rep K W d v ∧ Repk K W ds r

section
variable {K : PySem.W.Frag} {W W' : Hp}
theorem sqL_mono (e : Same W W') {a : Addr} {vs : List V} (h : SqL K W a vs) : SqL K W' a vs := e.seq h
theorem sqT_mono (e : Same W W') {a : Addr} {vs : List V} (h : SqT K W a vs) : SqT K W' a vs := by
  rcases h with (h | ⟨o, h⟩) | h
  · exact .inl (.inl (e _ _ h))
  · exact .inl (.inr ⟨o, e _ _ h⟩)
  · exact .inr h
mutual
theorem Rep.mono (e : Same W W') : ∀ {d : D} {v : V}, Rep K W d v → Rep K W' d v
  | .non, _, h => h
  | .bl _, _, h => h
  | .int _, _, h => h
  | .str _, _, h => h
  | .ref _, _, h => h
  | .lst _, _, ⟨a, vs, e1, e2, e3⟩ => ⟨a, vs, e1, e _ _ e2, Reps.mono e e3⟩
  | .tup _, _, ⟨a, vs, e1, e2, e3⟩ => ⟨a, vs, e1, sqT_mono e e2, Reps.mono e e3⟩
  | .fro _, _, ⟨a, vs, e1, e2, e3⟩ => ⟨a, vs, e1, sqL_mono e e2, Reps.mono e e3⟩
  | .obj _ _ _, _, ⟨a, dx, gs, vs, e1, e2, e4, e5, e3⟩ => ⟨a, dx, gs, vs, e1, e _ _ e2, e4, e5, Reps.mono e e3⟩
theorem Reps.mono (e : Same W W') : ∀ {ds : List D} {vs : List V}, Reps K W ds vs → Reps K W' ds vs
  | [], _, h => h
  | _ :: _, _, ⟨v, r, e1, e2, e3⟩ => ⟨v, r, e1, Rep.mono e e2, Reps.mono e e3⟩
end
theorem Repk.mono {κ : Type} (e : Same W W') : ∀ {ds : List (κ × D)} {vs : List (κ × V)}, Repk K W ds vs → Repk K W' ds vs
  | [], _, h => h
  | (_, _) :: _, _, ⟨v, r, e1, e2, e3⟩ => ⟨v, r, e1, Rep.mono e e2, Repk.mono e e3⟩
theorem Reps.length : ∀ {ds : List D} {vs : List V}, Reps K W ds vs → vs.length = ds.length
  | [], _, h => by rw [show _ = [] from h]; rfl
  | _ :: ds, _, ⟨v, r, e1, e2, e3⟩ => by
    subst e1
    show r.length + 1 = ds.length + 1
    rw [Reps.length e3]
theorem Reps.get : ∀ {ds : List D} {vs : List V} {i : Nat} {d : D}, Reps K W ds vs → ds[i]? = some d → ∃ v, vs[i]? = some v ∧ Rep K W d v
  | [], _, _, _, _, e => by simp at e
  | _ :: _, _, 0, _, ⟨v, r, e1, e2, e3⟩, e => by
    subst e1
    have e' := Option.some.inj e
    subst e'
    exact ⟨v, rfl, e2⟩
  | _ :: _, _, i + 1, _, ⟨v, r, e1, e2, e3⟩, e => by
    subst e1
    exact Reps.get (i := i) e3 e
theorem Reps.append : ∀ {ds es : List D} {vs ws : List V}, Reps K W ds vs → Reps K W es ws → Reps K W (ds ++ es) (vs ++ ws)
  | [], _, _, _, h, h' => by
    rw [show _ = [] from h]
    exact h'
  | _ :: _, _, _, _, ⟨v, r, e1, e2, e3⟩, h' => by
    subst e1
    exact ⟨v, _, rfl, e2, Reps.append e3 h'⟩
theorem Reps.one {d : D} {v : V} (h : Rep K W d v) : Reps K W [d] [v] := ⟨v, [], rfl, h, rfl⟩
theorem Reps.take : ∀ {ds : List D} {vs : List V} (n : Nat), Reps K W ds vs → Reps K W (ds.take n) (vs.take n)
  | [], _, n, h => by
    rw [show _ = [] from h, List.take_nil, List.take_nil]; rfl
  | _ :: _, _, 0, _ => by rw [List.take_zero, List.take_zero]; rfl
  | _ :: _, _, n + 1, ⟨v, r, e1, e2, e3⟩ => by
    subst e1
    exact ⟨v, _, rfl, e2, Reps.take n e3⟩
theorem Reps.drop : ∀ {ds : List D} {vs : List V} (n : Nat), Reps K W ds vs → Reps K W (ds.drop n) (vs.drop n)
  | [], _, n, h => by
    rw [show _ = [] from h, List.drop_nil, List.drop_nil]; rfl
  | _ :: _, _, 0, h => h
  | _ :: _, _, n + 1, ⟨v, r, e1, e2, e3⟩ => by
    subst e1
    exact Reps.drop n e3
theorem Reps.set {d : D} {v : V} (h : Rep K W d v) : ∀ {ds : List D} {vs : List V} (i : Nat), Reps K W ds vs → Reps K W (ds.set i d) (vs.set i v)
  | [], _, _, h' => by
    rw [show _ = [] from h']; rfl
  | _ :: _, _, 0, ⟨_, r, e1, e2, e3⟩ => by
    subst e1
    exact ⟨v, r, rfl, h, e3⟩
  | _ :: _, _, i + 1, ⟨w, r, e1, e2, e3⟩ => by
    subst e1
    exact ⟨w, _, rfl, e2, Reps.set h i e3⟩
theorem Repf.mono (e : Same W W') {fs : List (Str × D)} {gs : List (Str × V)} (h : Repf K W fs gs) : Repf K W' fs gs := fun f d q => by
  obtain ⟨v, a, b⟩ := h f d q
  exact ⟨v, a, b.mono e⟩
/-- slots of an environment, fields of an instance -/
def getV : DE → Nat → Option D
  | [], _ => none
  | x :: _, 0 => x
  | _ :: r, i + 1 => getV r i
def setV : DE → Nat → D → DE
  | [], _, _ => []
  | _ :: r, 0, d => some d :: r
  | x :: r, i + 1, d => x :: setV r i d
def cntV : DE → Nat
  | [] => 0
  | none :: r => cntV r
  | some _ :: r => cntV r + 1
theorem getV_setV : ∀ {e : DE} {i j : Nat} {d x : D}, getV (setV e i d) j = some x → (j = i ∧ x = d) ∨ (j ≠ i ∧ getV e j = some x)
  | [], _, _, _, _, h => by cases h
  | _ :: r, 0, 0, d, x, h => .inl ⟨rfl, (Option.some.inj h).symm⟩
  | _ :: r, 0, j + 1, d, x, h => .inr ⟨Nat.succ_ne_zero j, h⟩
  | y :: r, i + 1, 0, d, x, h => .inr ⟨(Nat.succ_ne_zero i).symm, h⟩
  | y :: r, i + 1, j + 1, d, x, h => by
    rcases getV_setV (e := r) (i := i) (j := j) h with ⟨a, b⟩ | ⟨a, b⟩
    · exact .inl ⟨by rw [a], b⟩
    · exact .inr ⟨fun z => a (Nat.succ.inj z), b⟩
theorem getV_set_ne : ∀ {e : DE} {i j : Nat} {d : D}, j ≠ i → getV (setV e i d) j = getV e j
  | [], _, _, _, _ => rfl
  | _ :: r, 0, 0, d, h => absurd rfl h
  | _ :: r, 0, j + 1, d, h => rfl
  | y :: r, i + 1, 0, d, h => rfl
  | y :: r, i + 1, j + 1, d, h => getV_set_ne (e := r) (i := i) (j := j) fun z => h (by rw [z])
theorem getV_set_same : ∀ {e : DE} {i : Nat} {d : D}, i < e.length → getV (setV e i d) i = some d
  | [], _, _, h => absurd h (Nat.not_lt_zero _)
  | _ :: r, 0, d, _ => rfl
  | y :: r, i + 1, d, h => getV_set_same (e := r) (i := i) (Nat.lt_of_succ_lt_succ h)
theorem setV_length : ∀ {e : DE} {i : Nat} {d : D}, (setV e i d).length = e.length
  | [], _, _ => rfl
  | _ :: r, 0, d => rfl
  | y :: r, i + 1, d => congrArg (· + 1) (setV_length (e := r) (i := i))
theorem cntV_le : ∀ e : DE, cntV e ≤ e.length
  | [] => Nat.le_refl _
  | none :: r => Nat.le_succ_of_le (cntV_le r)
  | some _ :: r => Nat.succ_le_succ (cntV_le r)
theorem cntV_none : ∀ {e : DE} {i : Nat} {d : D}, i < e.length → getV e i = none → cntV (setV e i d) = cntV e + 1
  | [], _, _, h, _ => absurd h (Nat.not_lt_zero _)
  | none :: r, 0, d, _, _ => rfl
  | some _ :: r, 0, d, _, h => by cases h
  | none :: r, i + 1, d, h, q => cntV_none (e := r) (i := i) (Nat.lt_of_succ_lt_succ h) q
  | some _ :: r, i + 1, d, h, q => congrArg (· + 1) (cntV_none (e := r) (i := i) (Nat.lt_of_succ_lt_succ h) q)
theorem cntV_some : ∀ {e : DE} {i : Nat} {d x : D}, getV e i = some x → cntV (setV e i d) = cntV e
  | [], _, _, _, h => by cases h
  | none :: r, 0, d, _, h => by cases h
  | some _ :: r, 0, d, _, h => rfl
  | none :: r, i + 1, d, _, q => cntV_some (e := r) (i := i) q
  | some _ :: r, i + 1, d, _, q => congrArg (· + 1) (cntV_some (e := r) (i := i) q)
theorem putF_len {f : Str} {v w : V} : ∀ {gs : List (Str × V)}, gs.lookup f = some w → (putF f v gs).length = gs.length
  | [], h => by cases h
  | (g, x) :: r, h => by
    show (if g = f then (g, v) :: r else (g, x) :: putF f v r).length = r.length + 1
    by_cases q : g = f
    · rw [if_pos q]; rfl
    · rw [if_neg q]
      have hb : (f == g) = false := beq_eq_false_iff_ne.mpr fun z => q z.symm
      rw [List.lookup_cons, hb] at h
      show (putF f v r).length + 1 = r.length + 1
      rw [putF_len (gs := r) h]
/-- an instance's fields -/
structure FRep (K : PySem.W.Frag) (W : Hp) (N : List Str) (xs : DE) (gs : List (Str × V)) : Prop where
  nd : N.Nodup
  few : N.length ≤ 900
  len : xs.length = N.length
  is : ∀ (i : Nat) (f : Str) (d : D), N[i]? = some f → getV xs i = some d → ∃ v, gs.lookup f = some v ∧ Rep K W d v
  no : ∀ (i : Nat) (f : Str), N[i]? = some f → getV xs i = none → gs.lookup f = none
  out : ∀ f : Str, f ∉ N → gs.lookup f = none
  cnt : gs.length ≤ cntV xs
theorem FRep.mono (e : Same W W') {N : List Str} {xs : DE} {gs : List (Str × V)} (h : FRep K W N xs gs) : FRep K W' N xs gs :=
  ⟨h.nd, h.few, h.len, fun i f d a b => by
    obtain ⟨v, c, r⟩ := h.is i f d a b
    exact ⟨v, c, r.mono e⟩, h.no, h.out, h.cnt⟩
theorem FRep.lt {N : List Str} {xs : DE} {gs : List (Str × V)} (h : FRep K W N xs gs) : gs.length < 1000 := by
  have a := h.cnt
  have b := cntV_le xs
  have c := h.len
  have d := h.few
  omega
theorem FRep.put {N : List Str} {xs : DE} {gs : List (Str × V)} (h : FRep K W N xs gs) {i : Nat} {f : Str} {d : D} {v : V} (hi : N[i]? = some f) (r : Rep K W d v) : FRep K W N (setV xs i d) (putF f v gs) := by
  have hlt : i < N.length := (List.getElem?_eq_some_iff.mp hi).1
  have hlx : i < xs.length := by rw [h.len]; exact hlt
  refine ⟨h.nd, h.few, by rw [setV_length]; exact h.len, fun j g x hj hx => ?_, fun j g hj hx => ?_, fun g hg => ?_, ?_⟩
  · rw [lookup_putF]
    rcases getV_setV hx with ⟨a, b⟩ | ⟨a, b⟩
    · subst a b
      rw [hi] at hj
      cases hj
      exact ⟨v, if_pos rfl, r⟩
    · have ne : g ≠ f := fun z => a (by subst z; exact nodup_ix h.nd hj hi)
      obtain ⟨w, c, rr⟩ := h.is j g x hj b
      exact ⟨w, by rw [if_neg ne]; exact c, rr⟩
  · rw [lookup_putF]
    by_cases e : j = i
    · subst e
      rw [getV_set_same hlx] at hx
      cases hx
    · rw [getV_set_ne e] at hx
      have ne : g ≠ f := fun z => e (by subst z; exact nodup_ix h.nd hj hi)
      rw [if_neg ne]
      exact h.no j g hj hx
  · have ne : g ≠ f := fun z => hg (by subst z; exact List.mem_of_getElem? hi)
    rw [lookup_putF, if_neg ne]
    exact h.out g hg
  · cases q : getV xs i with
    | none =>
      rw [cntV_none hlx q]
      exact Nat.le_trans (length_putF f v gs) (Nat.succ_le_succ h.cnt)
    | some x =>
      obtain ⟨w, c, _⟩ := h.is i f x hi q
      rw [cntV_some q, putF_len c]
      exact h.cnt
end

/-- what stands at a mutable object's address -/
def MRep (K : PySem.W.Frag) (W : Hp) : MO → HO → Prop
  | .lst xs, o => ∃ vs, o = .lst vs ∧ Reps K W xs vs
  | .ins C N xs, o => ∃ dx gs, o = .ins C dx gs ∧ FRep K W N xs gs
  | .dK kvs, o => ∃ ws, o = .dK ws ∧ Repk K W kvs ws
  | .dT kvs, o => ∃ ws, o = .dT ws ∧ Repk K W kvs ws
theorem MRep.mono {K : PySem.W.Frag} {W W' : Hp} (e : Same W W') : ∀ {m : MO} {o : HO}, MRep K W m o → MRep K W' m o
  | .lst _, _, ⟨vs, e1, e2⟩ => ⟨vs, e1, Reps.mono e e2⟩
  | .ins _ _ _, _, ⟨dx, gs, e1, e2⟩ => ⟨dx, gs, e1, e2.mono e⟩
  | .dK _, _, ⟨ws, e1, e2⟩ => ⟨ws, e1, Repk.mono e e2⟩
  | .dT _, _, ⟨ws, e1, e2⟩ => ⟨ws, e1, Repk.mono e e2⟩
/-- the heap: what is seen and never changes (W), the store (S) -/
structure Ok (K : PySem.W.Frag) (W : Hp) (S : Sto) (H : Hp) : Prop where
  vis : Same W H
  sto : ∀ a m, S a = some m → ∃ o, H a = some o ∧ MRep K W m o
  sep : ∀ a m, S a = some m → W a = none
def delV : DE → Nat → DE
  | [], _ => []
  | _ :: r, 0 => none :: r
  | x :: r, i + 1 => x :: delV r i
def Sl (K : PySem.W.Frag) (W : Hp) (e : DE) (σ : L2.St) : Prop := ∀ i d, getV e i = some d → ∃ v, σ[i]? = some (some v) ∧ Rep K W d v
theorem getV_delV : ∀ {e : DE} {i j : Nat} {x : D}, getV (delV e i) j = some x → j ≠ i ∧ getV e j = some x
  | [], _, _, _, h => by cases h
  | _ :: r, 0, 0, x, h => by cases h
  | _ :: r, 0, j + 1, x, h => ⟨Nat.succ_ne_zero j, h⟩
  | y :: r, i + 1, 0, x, h => ⟨(Nat.succ_ne_zero i).symm, h⟩
  | y :: r, i + 1, j + 1, x, h => by
    obtain ⟨a, b⟩ := getV_delV (e := r) (i := i) (j := j) h
    exact ⟨fun z => a (Nat.succ.inj z), b⟩
section
variable {K : PySem.W.Frag} {W W' : Hp} {S : Sto} {H : Hp} {e : DE} {σ : L2.St}
theorem Sl.mono (z : Same W W') (h : Sl K W e σ) : Sl K W' e σ := fun i d q => by
  obtain ⟨v, a, b⟩ := h i d q
  exact ⟨v, a, b.mono z⟩
theorem lt_of_some {α : Type} {l : List α} {i : Nat} {x : α} (h : l[i]? = some x) : i < l.length := (List.getElem?_eq_some_iff.mp h).1
theorem Sl.set {i : Nat} {d : D} {v : V} (h : Sl K W e σ) (hi : i < σ.length) (r : Rep K W d v) : Sl K W (setV e i d) (σ.set i (some v)) := fun j x q => by
  rcases getV_setV q with ⟨a, b⟩ | ⟨a, b⟩
  · subst a b
    exact ⟨v, List.getElem?_set_self hi, r⟩
  · obtain ⟨w, c, f⟩ := h j x b
    exact ⟨w, by rw [List.getElem?_set_ne (Ne.symm a)]; exact c, f⟩
theorem Ok.fresh (ok : Ok K W S H) {p : Addr} (h : H p = none) : W p = none ∧ S p = none := by
  constructor
  · cases q : W p with
    | none => rfl
    | some o => rw [ok.vis _ _ q] at h; cases h
  · cases q : S p with
    | none => rfl
    | some m =>
      obtain ⟨o, e, _⟩ := ok.sto _ _ q
      rw [e] at h; cases h
theorem same_new {p : Addr} {o : HO} (h : W p = none) : Same W (upd W p o) := fun b x e => by
  rw [upd_ne (ne_of_none e h)]
  exact e
/-- a new object that never changes -/
theorem Ok.newW (ok : Ok K W S H) {p : Addr} {o : HO} (h : H p = none) : Ok K (upd W p o) S (upd H p o) := by
  obtain ⟨hW, hS⟩ := ok.fresh h
  refine ⟨fun b x e => ?_, fun a m e => ?_, fun a m e => ?_⟩
  · by_cases q : b = p
    · subst q; rw [upd_same] at e ⊢; exact e
    · rw [upd_ne q] at e ⊢; exact ok.vis _ _ e
  · obtain ⟨x, e1, e2⟩ := ok.sto _ _ e
    refine ⟨x, ?_, e2.mono (same_new hW)⟩
    rw [upd_ne (ne_of_S e hS)]; exact e1
  · rw [upd_ne (ne_of_S e hS)]; exact ok.sep _ _ e
/-- a new mutable object -/
theorem Ok.newS (ok : Ok K W S H) {p : Addr} {o : HO} {m : MO} (h : H p = none) (r : MRep K W m o) : Ok K W (put S p m) (upd H p o) := by
  obtain ⟨hW, hS⟩ := ok.fresh h
  refine ⟨fun b x e => ?_, fun a n e => ?_, fun a n e => ?_⟩
  · rw [upd_ne (ne_of_none e hW)]; exact ok.vis _ _ e
  · by_cases q : a = p
    · subst q
      rw [put_same] at e
      cases e
      exact ⟨o, upd_same, r⟩
    · rw [put_ne q] at e
      obtain ⟨x, e1, e2⟩ := ok.sto _ _ e
      exact ⟨x, by rw [upd_ne q]; exact e1, e2⟩
  · by_cases q : a = p
    · subst q; exact hW
    · rw [put_ne q] at e; exact ok.sep _ _ e
/-- a mutable object changes -/
theorem Ok.chg (ok : Ok K W S H) {p : Addr} {o : HO} {m m0 : MO} (h : S p = some m0) (r : MRep K W m o) : Ok K W (put S p m) (upd H p o) := by
  have hW := ok.sep _ _ h
  refine ⟨fun b x e => ?_, fun a n e => ?_, fun a n e => ?_⟩
  · rw [upd_ne (ne_of_none e hW)]; exact ok.vis _ _ e
  · by_cases q : a = p
    · subst q
      rw [put_same] at e
      cases e
      exact ⟨o, upd_same, r⟩
    · rw [put_ne q] at e
      obtain ⟨x, e1, e2⟩ := ok.sto _ _ e
      exact ⟨x, by rw [upd_ne q]; exact e1, e2⟩
  · by_cases q : a = p
    · subst q; exact hW
    · rw [put_ne q] at e; exact ok.sep _ _ e
/-- a mutable object is thrown out of the store -/
theorem Ok.less (ok : Ok K W S H) {S' : Sto} (h : ∀ a m, S' a = some m → S a = some m) : Ok K W S' H :=
  ⟨ok.vis, fun a m e => ok.sto a m (h a m e), fun a m e => ok.sep a m (h a m e)⟩
theorem Ok.del (ok : Ok K W S H) (a : Addr) : Ok K W (del S a) H := ok.less fun b m e => by
  unfold DL.del at e
  by_cases q : b = a
  · rw [if_pos q] at e; cases e
  · rw [if_neg q] at e; exact e
/-- a mutable object never changes again -/
theorem Ok.frz (ok : Ok K W S H) {a : Addr} {m : MO} {o : HO} (h : S a = some m) (ho : H a = some o) : Ok K (upd W a o) (DL.del S a) H := by
  have hW := ok.sep _ _ h
  refine ⟨fun b x e => ?_, fun b n e => ?_, fun b n e => ?_⟩
  · by_cases q : b = a
    · subst q; rw [upd_same] at e; cases e; exact ho
    · rw [upd_ne q] at e; exact ok.vis _ _ e
  · unfold DL.del at e
    by_cases q : b = a
    · rw [if_pos q] at e; cases e
    · rw [if_neg q] at e
      obtain ⟨x, e1, e2⟩ := ok.sto _ _ e
      exact ⟨x, e1, e2.mono (same_new hW)⟩
  · unfold DL.del at e
    by_cases q : b = a
    · rw [if_pos q] at e; cases e
    · rw [if_neg q] at e
      rw [upd_ne q]; exact ok.sep _ _ e
end
end DL
set_option Elab.async false
set_option linter.all false
set_option maxRecDepth 100000
set_option maxHeartbeats 2000000
/-! The data layer, part b: judgements over data, expressions, statements, calls. -/
namespace DL
open PySem PySem.Spec PyProof.Rows L2

/-- what a step keeps: what is seen, and what belongs to nobody here -/
structure Stp (W : Hp) (S : Sto) (H : Hp) (W' : Hp) (S' : Sto) (H' : Hp) : Prop where
  vis : Same W W'
  frm : ∀ a o, H a = some o → W a = none → S a = none → H' a = some o ∧ W' a = none ∧ S' a = none
theorem Stp.refl {W : Hp} {S : Sto} {H : Hp} : Stp W S H W S H := ⟨Same.refl W, fun _ _ h1 h2 h3 => ⟨h1, h2, h3⟩⟩
theorem Stp.trans {W W1 W2 : Hp} {S S1 S2 : Sto} {H H1 H2 : Hp} (a : Stp W S H W1 S1 H1) (b : Stp W1 S1 H1 W2 S2 H2) : Stp W S H W2 S2 H2 :=
  ⟨a.vis.trans b.vis, fun p o h1 h2 h3 => let ⟨x, y, z⟩ := a.frm p o h1 h2 h3; b.frm p o x y z⟩
section
variable {K : PySem.W.Frag} {W : Hp} {S : Sto} {H : Hp} {p : Addr} {o : HO} {m m0 : MO}
theorem Ok.stW (ok : Ok K W S H) (h : H p = none) : Stp W S H (upd W p o) S (upd H p o) :=
  ⟨same_new (ok.fresh h).1, fun a x h1 h2 h3 => by
    have ne : a ≠ p := ne_of_none h1 h
    exact ⟨by rw [upd_ne ne]; exact h1, by rw [upd_ne ne]; exact h2, h3⟩⟩
theorem Ok.stS (ok : Ok K W S H) (h : H p = none) : Stp W S H W (put S p m) (upd H p o) :=
  ⟨Same.refl W, fun a x h1 h2 h3 => by
    have ne : a ≠ p := ne_of_none h1 h
    exact ⟨by rw [upd_ne ne]; exact h1, h2, by rw [put_ne ne]; exact h3⟩⟩
theorem Ok.stJ (ok : Ok K W S H) (h : H p = none) : Stp W S H W S (upd H p o) :=
  ⟨Same.refl W, fun a x h1 h2 h3 => ⟨by rw [upd_ne (ne_of_none h1 h)]; exact h1, h2, h3⟩⟩
theorem Ok.stC (ok : Ok K W S H) (h : S p = some m0) : Stp W S H W (put S p m) (upd H p o) :=
  ⟨Same.refl W, fun a x h1 h2 h3 => by
    have ne : a ≠ p := fun e => by subst e; rw [h] at h3; cases h3
    exact ⟨by rw [upd_ne ne]; exact h1, h2, by rw [put_ne ne]; exact h3⟩⟩
theorem Ok.stF (ok : Ok K W S H) (h : S p = some m0) : Stp W S H (upd W p o) (DL.del S p) H :=
  ⟨same_new (ok.sep _ _ h), fun a x h1 h2 h3 => by
    have ne : a ≠ p := fun e => by subst e; rw [h] at h3; cases h3
    exact ⟨h1, by rw [upd_ne ne]; exact h2, by unfold DL.del; rw [if_neg ne]; exact h3⟩⟩
end
abbrev XQ := Addr → List (Str × D) → Sto → Prop
abbrev Qd := D → Sto → Prop
abbrev WPe := DE → Sto → Qd → XQ → Prop
abbrev WPt := DE → Sto → (Bool → Sto → Prop) → XQ → Prop
abbrev WPa := DE → Sto → (List D → Sto → Prop) → XQ → Prop
structure QS where
  nx : DE → Sto → Prop
  rt : D → Sto → Prop
  bk : DE → Sto → Prop
  ct : DE → Sto → Prop
  xc : Addr → List (Str × D) → DE → Sto → Prop
abbrev WPs := DE → Sto → QS → Prop
abbrev Ctr := List D → Sto → Qd → XQ → Prop
def X0 : XQ := fun _ _ _ => False
def some! {α : Type} (o : Option α) (k : α → Prop) : Prop := match o with | some a => k a | none => False
theorem some!_ex {α : Type} {o : Option α} {k : α → Prop} (h : some! o k) : ∃ a, o = some a ∧ k a := by
  cases o with
  | none => exact h.elim
  | some a => exact ⟨a, rfl, h⟩

section
variable (K : PySem.W.Frag)
def CV (W : Hp) (S : Sto) (H : Hp) (Q0 : Qd) (Q : VK) : Prop := ∀ d S' v W' H', Q0 d S' → Stp W S H W' S' H' → Ok K W' S' H' → Rep K W' d v → Q v H'
def CVs (W : Hp) (S : Sto) (H : Hp) (Q0 : List D → Sto → Prop) (Q : List V → Hp → Prop) : Prop := ∀ d S' v W' H', Q0 d S' → Stp W S H W' S' H' → Ok K W' S' H' → Reps K W' d v → Q v H'
def CB (W : Hp) (S : Sto) (H : Hp) (Q0 : Bool → Sto → Prop) (Q : Bool → Hp → Prop) : Prop := ∀ b S' W' H', Q0 b S' → Stp W S H W' S' H' → Ok K W' S' H' → Q b H'
def CXc (W : Hp) (S : Sto) (H : Hp) (X0 : XQ) (E : XK) : Prop := ∀ C fs S' dd gs W' H', X0 C fs S' → Stp W S H W' S' H' → Ok K W' S' H' → W' dd = some (.xd gs) → Repf K W' fs gs → E (.ref C) (some dd) H'
def lE (Wx : WX) (w : WPe) : TE := fun σ H Q => ∃ W env S Q0 X0, Ok K W S H ∧ Sl K W env σ ∧ w env S Q0 X0 ∧ CV K W S H Q0 Q ∧ CXc K W S H X0 (fun c d H' => Wx c d σ H')
def lT (Wx : WX) (w : WPt) : TT := fun σ H Q => ∃ W env S Q0 X0, Ok K W S H ∧ Sl K W env σ ∧ w env S Q0 X0 ∧ CB K W S H Q0 Q ∧ CXc K W S H X0 (fun c d H' => Wx c d σ H')
def lA (Wx : WX) (w : WPa) : TA := fun σ H Q => ∃ W env S Q0 X0, Ok K W S H ∧ Sl K W env σ ∧ w env S Q0 X0 ∧ CVs K W S H Q0 Q ∧ CXc K W S H X0 (fun c d H' => Wx c d σ H')
structure CS (Wx : WX) (W : Hp) (S : Sto) (H : Hp) (q : QS) (D : Ends) : Prop where
  nx : ∀ e S' σ' W' H', q.nx e S' → Stp W S H W' S' H' → Ok K W' S' H' → Sl K W' e σ' → D.nx σ' H'
  rt : ∀ d S' v W' H', q.rt d S' → Stp W S H W' S' H' → Ok K W' S' H' → Rep K W' d v → D.rt v H'
  bk : ∀ e S' σ' W' H', q.bk e S' → Stp W S H W' S' H' → Ok K W' S' H' → Sl K W' e σ' → D.bk σ' H'
  ct : ∀ e S' σ' W' H', q.ct e S' → Stp W S H W' S' H' → Ok K W' S' H' → Sl K W' e σ' → D.ct σ' H'
  xc : ∀ C fs e S' dd gs σ' W' H', q.xc C fs e S' → Stp W S H W' S' H' → Ok K W' S' H' → Sl K W' e σ' → W' dd = some (.xd gs) → Repf K W' fs gs → Wx (.ref C) (some dd) σ' H'
def lS (Wx : WX) (n : Nat) (w : WPs) : TS := fun D σ H => ∃ W env S q, Ok K W S H ∧ Sl K W env σ ∧ σ.length = n ∧ w env S q ∧ CS K Wx W S H q { D with nx := fun σ' H' => σ'.length = n → D.nx σ' H', bk := fun σ' H' => σ'.length = n → D.bk σ' H', ct := fun σ' H' => σ'.length = n → D.ct σ' H' }
def lSp (spec : Ctr) : Sp := fun vs H Q E => ∃ W S ds Q0 X0, Ok K W S H ∧ Reps K W ds vs ∧ spec ds S Q0 X0 ∧ CV K W S H Q0 Q ∧ CXc K W S H X0 E
/-- an operation on two values -/
abbrev O2 := Sto → D → D → Qd → Prop
def lOp (o : O2) : R2 := fun x y H Q => ∃ W S a b Q0, Ok K W S H ∧ Rep K W a x ∧ Rep K W b y ∧ o S a b Q0 ∧ CV K W S H Q0 Q
/-- a call of a built-in on values -/
abbrev OC := Sto → List D → Qd → Prop
def lC (o : OC) : List V → Hp → VK → Prop := fun xs H Q => ∃ W S ds Q0, Ok K W S H ∧ Reps K W ds xs ∧ o S ds Q0 ∧ CV K W S H Q0 Q
/-- a method of a built-in type: may change the store -/
abbrev OM := Sto → D → List D → Qd → Prop
end
section
variable {K : PySem.W.Frag} {W W' : Hp} {S S2 : Sto} {H H2 : Hp}
theorem CV.mono {Q0 : Qd} {Q : VK} (e : Stp W S H W' S2 H2) (h : CV K W S H Q0 Q) : CV K W' S2 H2 Q0 Q := fun d S' v W2 H' q s => h d S' v W2 H' q (e.trans s)
theorem CXc.mono {X0 : XQ} {E : XK} (e : Stp W S H W' S2 H2) (h : CXc K W S H X0 E) : CXc K W' S2 H2 X0 E := fun C fs S' dd gs W2 H' q s => h C fs S' dd gs W2 H' q (e.trans s)
theorem CXc.no {E : XK} : CXc K W S H X0 E := fun _ _ _ _ _ _ _ h => h.elim
theorem CS.mono {Wx : WX} {q : QS} {D : Ends} (e : Stp W S H W' S2 H2) (h : CS K Wx W S H q D) : CS K Wx W' S2 H2 q D :=
  ⟨fun a b c d f g s => h.nx a b c d f g (e.trans s), fun a b c d f g s => h.rt a b c d f g (e.trans s), fun a b c d f g s => h.bk a b c d f g (e.trans s), fun a b c d f g s => h.ct a b c d f g (e.trans s),
    fun a b c d f g i j k l s => h.xc a b c d f g i j k l (e.trans s)⟩
end

section
variable (X : Cx)
structure PD (e : Expr) (w : WPe) : Prop where
  run : ∀ Wx, Takes X Wx → PE X e (lE X.K Wx w)
structure PDt (e : Expr) (w : WPt) : Prop where
  run : ∀ Wx, Takes X Wx → PT X e (lT X.K Wx w)
structure PDw (e : Expr) (w : WPt) : Prop where
  run : ∀ Wx, Takes X Wx → PW X e (lT X.K Wx w)
structure PDa (es : List Expr) (w : WPa) : Prop where
  run : ∀ Wx, Takes X Wx → PA X es (lA X.K Wx w)
structure PDs (st : Stmt) (w : WPs) : Prop where
  run : ∀ Wx, Takes X Wx → PS X st (lS X.K Wx X.N.length w)
structure PDss (st : List Stmt) (w : WPs) : Prop where
  run : ∀ Wx, Takes X Wx → PSs X st (lS X.K Wx X.N.length w)
end
section
variable {X : Cx} {e a b c : Expr} {es : List Expr} {pos : Pos}
theorem PE.imp {t t' : TE} (h : PE X e t) (i : ∀ σ H Q, t' σ H Q → t σ H Q) : PE X e t' := ⟨fun pins s σ H Q I q => h.run pins s σ H Q I (i σ H Q q)⟩
theorem PT.imp {t t' : TT} (h : PT X e t) (i : ∀ σ H Q, t' σ H Q → t σ H Q) : PT X e t' := ⟨fun pins s σ H Q I q => h.run pins s σ H Q I (i σ H Q q)⟩
theorem PW.imp {t t' : TT} (h : PW X e t) (i : ∀ σ H Q, t' σ H Q → t σ H Q) : PW X e t' := ⟨fun wh pins s σ H Q I q => h.run wh pins s σ H Q I (i σ H Q q)⟩
theorem PA.imp {t t' : TA} (h : PA X es t) (i : ∀ σ H Q, t' σ H Q → t σ H Q) : PA X es t' := ⟨fun po pins s σ H Q I q => h.run po pins s σ H Q I (i σ H Q q)⟩
theorem PS.imp {st : Stmt} {t t' : TS} (h : PS X st t) (i : ∀ D σ H, t' D σ H → t D σ H) : PS X st t' := ⟨fun pins s σ H D I q => h.run pins s σ H D I (i D σ H q)⟩
theorem PSs.imp {st : List Stmt} {t t' : TS} (h : PSs X st t) (i : ∀ D σ H, t' D σ H → t D σ H) : PSs X st t' := ⟨fun pins s σ H D I q => h.run pins s σ H D I (i D σ H q)⟩

/-! ### names, constants -/
def wVar (i : Nat) : WPe := fun env S Q _ => some! (getV env i) fun d => Q d S
def wC (d : D) : WPe := fun _ S Q _ => Q d S
theorem pd_var (i : Nat) {x : Str} (hN : X.N[i]? = some x := by rfl) (hv : Vis X.env.scope x := by first | exact Or.inl rfl | exact Or.inr (Or.inl rfl) | exact Or.inr (Or.inr rfl)) (hd : (x == ("__debug__" : Str)) = false := by decide)
    (hcd : (x == ("__classdict__" : Str)) = false := by decide) : PD X (.Name x pos) (wVar i) := ⟨fun Wx tk => PE.imp (pe_var hN hv hd hcd) fun σ H Q ⟨W, env, S, Q0, X1, ok, sl, hw, cv, cx⟩ => by
  obtain ⟨d, hd, q⟩ := some!_ex hw
  obtain ⟨v, hv, r⟩ := sl i d hd
  exact ⟨v, hv, cv d S v W H q Stp.refl ok r⟩⟩
theorem pd_c {d : D} {v : V} (h : PE X e (tC v)) (r : ∀ W, Rep X.K W d v) : PD X e (wC d) := ⟨fun Wx tk => PE.imp h fun σ H Q ⟨W, env, S, Q0, X1, ok, sl, hw, cv, cx⟩ => cv d S v W H hw Stp.refl ok (r W)⟩
theorem pd_int {i : Int} {j : Nat} : PD X (.Constant (.int i) j pos) (wC (.int i)) := pd_c pe_int fun _ => rfl
theorem pd_bl {i : Bool} {j : Nat} : PD X (.Constant (.bool i) j pos) (wC (.bl i)) := pd_c pe_bl fun _ => rfl
theorem pd_non {j : Nat} : PD X (.Constant .none j pos) (wC .non) := pd_c pe_non fun _ => rfl
theorem pd_str {x : Str} {j : Nat} : PD X (.Constant (.str x) j pos) (wC (.str x)) := pd_c pe_str fun _ => rfl

/-! ### two places, one place -/
def wBin (o : O2) (wa wb : WPe) : WPe := fun env S Q X => wa env S (fun x S1 => wb env S1 (fun y S2 => o S2 x y Q) X) X
theorem bin_go {K : PySem.W.Frag} {Wx : WX} {o : O2} {wa wb : WPe} {σ : L2.St} {H : Hp} {Q : VK} (h : lE K Wx (wBin o wa wb) σ H Q) : tOp (lOp K o) (lE K Wx wa) (lE K Wx wb) σ H Q := by
  obtain ⟨W, env, S, Q0, X1, ok, sl, hw, cv, cx⟩ := h
  refine ⟨W, env, S, _, X1, ok, sl, hw, fun x S1 v W1 H1 h1 s1 ok1 r1 => ?_, cx⟩
  refine ⟨W1, env, S1, _, X1, ok1, sl.mono s1.vis, h1, fun y S2 u W2 H2 h2 s2 ok2 r2 => ?_, cx.mono s1⟩
  exact ⟨W2, S2, x, y, Q0, ok2, r1.mono s2.vis, r2, h2, cv.mono (s1.trans s2)⟩
theorem pd_op {op : Operator} {o : O2} {wa wb : WPe} (ho : OpR X (binaryOp op) (lOp X.K o)) (ha : PD X a wa) (hb : PD X b wb) : PD X (.BinOp a op b pos) (wBin o wa wb) :=
  ⟨fun Wx tk => PE.imp (pe_op ho (ha.run Wx tk) (hb.run Wx tk)) fun _ _ _ h => bin_go h⟩
theorem pd_cmp {op : CmpOp} {o : O2} {wa wb : WPe} (ho : OpR X (compareOp op) (lOp X.K o)) (ha : PD X a wa) (hb : PD X b wb) (hm : behindInMarks op b = false) : PD X (.Compare a [op] [b] pos) (wBin o wa wb) :=
  ⟨fun Wx tk => PE.imp (pe_cmpR ho (ha.run Wx tk) (hb.run Wx tk) hm) fun _ _ _ h => bin_go h⟩
theorem pd_ix {o : O2} {wa wb : WPe} (hr : IxR X (lOp X.K o)) (ha : PD X a wa) (hb : PD X b wb) (hs : PlainIx b := by exact fun _ _ => rfl) : PD X (.Subscript a b pos) (wBin o wa wb) :=
  ⟨fun Wx tk => PE.imp (pe_ix hr (ha.run Wx tk) (hb.run Wx tk) hs) fun _ _ _ h => bin_go h⟩
abbrev O1 := Sto → D → Qd → Prop
def lU (K : PySem.W.Frag) (o : O1) : V → Hp → VK → Prop := fun x H Q => ∃ W S a Q0, Ok K W S H ∧ Rep K W a x ∧ o S a Q0 ∧ CV K W S H Q0 Q
def wUn (o : O1) (wa : WPe) : WPe := fun env S Q X => wa env S (fun x S1 => o S1 x Q) X
theorem pd_un {op : UnaryOp} {o : O1} {wa : WPe} (ho : UnR X (unaryOp op) (lU X.K o)) (ha : PD X a wa) : PD X (.UnaryOp op a pos) (wUn o wa) :=
  ⟨fun Wx tk => PE.imp (pe_un ho (ha.run Wx tk)) fun σ H Q ⟨W, env, S, Q0, X1, ok, sl, hw, cv, cx⟩ => ⟨W, env, S, _, X1, ok, sl, hw, fun x S1 v W1 H1 h1 s1 ok1 r1 => ⟨W1, S1, x, Q0, ok1, r1, h1, cv.mono s1⟩, cx⟩⟩
/-! ### tests -/
def wTest (w : WPe) : WPt := fun env S Q X => w env S (fun d S' => match d with | .bl b => Q b S' | _ => False) X
/-- a comparison as a test -/
theorem pdt_cmp {op : CmpOp} {o : O2} {wa wb : WPe} (ho : OpR X (compareOp op) (lOp X.K o)) (ha : PD X a wa) (hb : PD X b wb) (hm : behindInMarks op b = false) : PDt X (.Compare a [op] [b] pos) (wTest (wBin o wa wb)) :=
  ⟨fun Wx tk => PT.imp (pt_cmpR ho (ha.run Wx tk) (hb.run Wx tk) hm) fun σ H Q ⟨W, env, S, Q0, X1, ok, sl, hw, cv, cx⟩ => bin_go ⟨W, env, S, _, X1, ok, sl, hw, fun d S1 v W1 H1 h1 s1 ok1 r1 => by
    cases d with
    | bl k =>
      have e : v = .bl k := r1
      exact ⟨k, e, cv k S1 W1 H1 h1 s1 ok1⟩
    | _ => exact h1.elim, cx⟩⟩
/-- an expression whose value is a bool -/
theorem pdt_val {w : WPe} (h : PD X e w) (he : ∀ whole, isTrue e X.env whole = (do let v ← whole; standAt e.pos; holding [v] (truthy v)) := by intro _; rfl) : PDt X e (wTest w) :=
  ⟨fun Wx tk => PT.imp (pt_val (h.run Wx tk) he) fun σ H Q ⟨W, env, S, Q0, X1, ok, sl, hw, cv, cx⟩ => ⟨W, env, S, _, X1, ok, sl, hw, fun d S1 v W1 H1 h1 s1 ok1 r1 => by
    cases d with
    | bl k =>
      have e : v = .bl k := r1
      exact ⟨k, e, cv k S1 W1 H1 h1 s1 ok1⟩
    | _ => exact h1.elim, cx⟩⟩
def wAnd (w u : WPt) : WPt := fun env S Q X => w env S (fun b S1 => if b = true then u env S1 Q X else Q false S1) X
def wOr (w u : WPt) : WPt := fun env S Q X => w env S (fun b S1 => if b = true then Q true S1 else u env S1 Q X) X
def wNot (w : WPt) : WPt := fun env S Q X => w env S (fun b S1 => Q (!b) S1) X
variable {wa wb wc : WPe} {ta tb : WPt} {rest : List Expr}
theorem pdw_and1 (ha : PDt X a ta) : PDw X (.BoolOp .And [a] pos) ta := ⟨fun Wx tk => pw_and1 (ha.run Wx tk)⟩
theorem pdw_or1 (ha : PDt X a ta) : PDw X (.BoolOp .Or [a] pos) ta := ⟨fun Wx tk => pw_or1 (ha.run Wx tk)⟩
theorem pdw_and (ha : PDt X a ta) (hb : PDw X (.BoolOp .And (b :: rest) pos) tb) : PDw X (.BoolOp .And (a :: b :: rest) pos) (wAnd ta tb) :=
  ⟨fun Wx tk => PW.imp (pw_and (ha.run Wx tk) (hb.run Wx tk)) fun σ H Q ⟨W, env, S, Q0, X1, ok, sl, hw, cv, cx⟩ => ⟨W, env, S, _, X1, ok, sl, hw, fun k S1 W1 H1 h1 s1 ok1 => by
    cases k with
    | true => exact iteT ⟨W1, env, S1, Q0, X1, ok1, sl.mono s1.vis, (if_pos rfl).mp h1, fun b2 S2 W2 H2 q2 s2 => cv b2 S2 W2 H2 q2 (s1.trans s2), cx.mono s1⟩
    | false => exact iteF (cv false S1 W1 H1 ((if_neg Bool.false_ne_true).mp h1) s1 ok1), cx⟩⟩
theorem pdw_or (ha : PDt X a ta) (hb : PDw X (.BoolOp .Or (b :: rest) pos) tb) : PDw X (.BoolOp .Or (a :: b :: rest) pos) (wOr ta tb) :=
  ⟨fun Wx tk => PW.imp (pw_or (ha.run Wx tk) (hb.run Wx tk)) fun σ H Q ⟨W, env, S, Q0, X1, ok, sl, hw, cv, cx⟩ => ⟨W, env, S, _, X1, ok, sl, hw, fun k S1 W1 H1 h1 s1 ok1 => by
    cases k with
    | true => exact iteT (cv true S1 W1 H1 ((if_pos rfl).mp h1) s1 ok1)
    | false => exact iteF ⟨W1, env, S1, Q0, X1, ok1, sl.mono s1.vis, (if_neg Bool.false_ne_true).mp h1, fun b2 S2 W2 H2 q2 s2 => cv b2 S2 W2 H2 q2 (s1.trans s2), cx.mono s1⟩, cx⟩⟩
theorem PDw.pt (h : PDw X e ta) : PDt X e ta := ⟨fun Wx tk => (h.run Wx tk).pt⟩
theorem pdt_not (ha : PDt X a ta) : PDt X (.UnaryOp .Not a pos) (wNot ta) :=
  ⟨fun Wx tk => PT.imp (pt_not (ha.run Wx tk)) fun σ H Q ⟨W, env, S, Q0, X1, ok, sl, hw, cv, cx⟩ => ⟨W, env, S, _, X1, ok, sl, hw, fun k S1 W1 H1 h1 s1 ok1 => cv (!k) S1 W1 H1 h1 s1 ok1, cx⟩⟩
/-- and, or, not as values: bools -/
def wAndV (wa wb : WPe) : WPe := fun env S Q X => wa env S (fun d S1 => match d with | .bl b => if b = true then wb env S1 Q X else Q (.bl false) S1 | _ => False) X
def wOrV (wa wb : WPe) : WPe := fun env S Q X => wa env S (fun d S1 => match d with | .bl b => if b = true then Q (.bl true) S1 else wb env S1 Q X | _ => False) X
def wNotV (wa : WPe) : WPe := fun env S Q X => wa env S (fun d S1 => match d with | .bl b => Q (.bl (!b)) S1 | _ => False) X
theorem pd_one {op} (ha : PD X a wa) : PD X (.BoolOp op [a] pos) wa := ⟨fun Wx tk => pe_one (ha.run Wx tk)⟩
theorem pd_and (ha : PD X a wa) (hb : PD X (.BoolOp .And (b :: rest) pos) wb) : PD X (.BoolOp .And (a :: b :: rest) pos) (wAndV wa wb) :=
  ⟨fun Wx tk => PE.imp (pe_and (ha.run Wx tk) (hb.run Wx tk)) fun σ H Q ⟨W, env, S, Q0, X1, ok, sl, hw, cv, cx⟩ => ⟨W, env, S, _, X1, ok, sl, hw, fun k S1 v W1 H1 h1 s1 ok1 r1 => by
    cases k with
    | bl k =>
      refine ⟨k, r1, ?_⟩
      cases k with
      | true => exact iteT ⟨W1, env, S1, Q0, X1, ok1, sl.mono s1.vis, (if_pos rfl).mp h1, cv.mono s1, cx.mono s1⟩
      | false => exact iteF (cv _ S1 _ W1 H1 ((if_neg Bool.false_ne_true).mp h1) s1 ok1 rfl)
    | _ => exact h1.elim, cx⟩⟩
theorem pd_or (ha : PD X a wa) (hb : PD X (.BoolOp .Or (b :: rest) pos) wb) : PD X (.BoolOp .Or (a :: b :: rest) pos) (wOrV wa wb) :=
  ⟨fun Wx tk => PE.imp (pe_or (ha.run Wx tk) (hb.run Wx tk)) fun σ H Q ⟨W, env, S, Q0, X1, ok, sl, hw, cv, cx⟩ => ⟨W, env, S, _, X1, ok, sl, hw, fun k S1 v W1 H1 h1 s1 ok1 r1 => by
    cases k with
    | bl k =>
      refine ⟨k, r1, ?_⟩
      cases k with
      | true => exact iteT (cv _ S1 _ W1 H1 ((if_pos rfl).mp h1) s1 ok1 rfl)
      | false => exact iteF ⟨W1, env, S1, Q0, X1, ok1, sl.mono s1.vis, (if_neg Bool.false_ne_true).mp h1, cv.mono s1, cx.mono s1⟩
    | _ => exact h1.elim, cx⟩⟩
theorem pd_not (ha : PD X a wa) : PD X (.UnaryOp .Not a pos) (wNotV wa) :=
  ⟨fun Wx tk => PE.imp (pe_not (ha.run Wx tk)) fun σ H Q ⟨W, env, S, Q0, X1, ok, sl, hw, cv, cx⟩ => ⟨W, env, S, _, X1, ok, sl, hw, fun k S1 v W1 H1 h1 s1 ok1 r1 => by
    cases k with
    | bl k => exact ⟨k, r1, cv _ S1 _ W1 H1 h1 s1 ok1 rfl⟩
    | _ => exact h1.elim, cx⟩⟩
def wIfE (t : WPt) (wa wb : WPe) : WPe := fun env S Q X => t env S (fun k S1 => if k = true then wa env S1 Q X else wb env S1 Q X) X
theorem pd_ifE (hc : PDt X c ta) (ha : PD X a wa) (hb : PD X b wb) : PD X (.IfExp c a b pos) (wIfE ta wa wb) :=
  ⟨fun Wx tk => PE.imp (pe_ifExp (hc.run Wx tk) (ha.run Wx tk) (hb.run Wx tk)) fun σ H Q ⟨W, env, S, Q0, X1, ok, sl, hw, cv, cx⟩ => ⟨W, env, S, _, X1, ok, sl, hw, fun k S1 W1 H1 h1 s1 ok1 => by
    cases k with
    | true => exact iteT ⟨W1, env, S1, Q0, X1, ok1, sl.mono s1.vis, (if_pos rfl).mp h1, cv.mono s1, cx.mono s1⟩
    | false => exact iteF ⟨W1, env, S1, Q0, X1, ok1, sl.mono s1.vis, (if_neg Bool.false_ne_true).mp h1, cv.mono s1, cx.mono s1⟩, cx⟩⟩
/-- a < b < c -/
def wChain (o o' : O2) (wa wb wc : WPe) : WPe := fun env S Q X => wa env S (fun x S1 => wb env S1 (fun y S2 => o S2 x y fun k S3 => match k with | .bl k => if k = true then wc env S3 (fun z S4 => o' S4 y z Q) X else Q (.bl false) S3 | _ => False) X) X
end
end DL
set_option Elab.async false
set_option linter.all false
set_option maxRecDepth 100000
set_option maxHeartbeats 2000000
/-! The data layer, part c: calls, displays, fields, statements. -/
namespace DL
open PySem PySem.Spec PyProof.Rows L2

section
variable {X : Cx} {CX : CXT} {k : Nat} {f C : Addr} {fd : FuncData} {ps : List Str} {sp : Sp} {E : L2.St → XK} {x m : Str} {p pos apos : Pos} {e o : Expr} {es : List Expr} {ta : TE} {t : TA}
def tMethS (C : Addr) (m : Str) (sp : Sp) (E : L2.St → XK) (ta : TE) (t : TA) : TE := fun σ H Q => ta σ H fun x H1 => ∃ a dx fs, x = .ref a ∧ H1 a = some (.ins C dx fs) ∧ fs.lookup m = none ∧
  t σ H1 fun vs H2 => sp (x :: vs) H2 Q (E σ)
theorem run_fnN {pins : List (Addr × Obj)} {σ : L2.St} {H : Hp} {s : Shared} {Q : VK} {us : List Value} {vs : List V} (F : FnOk X.prog X.w X.K X.mg X.base CX k f fd ps sp) (hr : Room k X.A) (hb : Binds X.K fd ps []) (hx : PassesAt CX X σ (E σ))
    (I : Inv X pins σ H s) (r : Vals vs us) (h : sp vs H Q (E σ)) : wpAny (model X.prog X.w) X.A (call (.ref f) us) (EP X pins σ Q) X.xe s := run_fnS F hr hb hx I r h
theorem pe_methS {pl : Sem Bool} (he : PE X o ta) (c : Cls X.K C) (hm : Meth X.K C m f) (F : FnOk X.prog X.w X.K X.mg X.base CX k f fd ps sp) (hr : Room k X.A) (hb : Binds X.K fd ps []) (hx : ∀ σ, PassesAt CX X σ (E σ)) (ha : PA X (e :: es) t)
    (hst : starEach (e :: es) X.env = (false, eval e X.env) :: starEach es X.env := by rfl) (hpl : (backTo pos (starEach es X.env)).any (·.1) = false := by rfl)
    (ht : eval (.Call (.Attribute o m apos) (e :: es) [] pos) X.env = (do
      let ov ← eval o X.env
      standAt apos.atName
      let (f, first) ← holding [ov] (getMethod ov m pl)
      callWith pos f first (backTo pos (starEach (e :: es) X.env)) (backToKw pos (keywordEach [] X.env))) := by rfl) :
    PE X (.Call (.Attribute o m apos) (e :: es) [] pos) (tMethS C m sp E ta t) := by
  refine ⟨fun pins s σ H Q I h => ?_⟩
  refine PySem.W.methodCall_KW (pl := pl) (thn (he.run pins s σ H _ I h) fun u s1 ⟨x, H1, I1, rx, a, dx, fs, ex, ea, l, q⟩ => ?_) ht
  subst ex
  obtain rfl : u = Value.ref a := rx
  refine getmeth_ok I1 ea c hm l ?_
  refine PySem.W.callWith_K (first := [.ref a]) (h₀ := X.base) I.ok.mod.kin hm.kp (thn (ha.run pos pins s1 σ H1 _ I1 q) fun us s2 ⟨vs, H2, I2, r, q2⟩ => ⟨I2.kIn, ?_⟩) hst hpl
  exact run_fnN (us := .ref a :: us) (vs := .ref a :: vs) F hr hb (hx σ) I2 (.cons rfl r) q2
theorem pe_meth0S {pl : Sem Bool} (he : PE X o ta) (c : Cls X.K C) (hm : Meth X.K C m f) (F : FnOk X.prog X.w X.K X.mg X.base CX k f fd ps sp) (hr : Room k X.A) (hb : Binds X.K fd ps []) (hx : ∀ σ, PassesAt CX X σ (E σ))
    (ht : eval (.Call (.Attribute o m apos) [] [] pos) X.env = (do
      let ov ← eval o X.env
      standAt apos.atName
      let (f, first) ← holding [ov] (getMethod ov m pl)
      callWith pos f first (backTo pos (starEach [] X.env)) (backToKw pos (keywordEach [] X.env))) := by rfl) :
    PE X (.Call (.Attribute o m apos) [] [] pos) (tMethS C m sp E ta tNil) := by
  refine ⟨fun pins s σ H Q I h => ?_⟩
  refine PySem.W.methodCall_KW (pl := pl) (thn (he.run pins s σ H _ I h) fun u s1 ⟨x, H1, I1, rx, a, dx, fs, ex, ea, l, q⟩ => ?_) ht
  subst ex
  obtain rfl : u = Value.ref a := rx
  refine getmeth_ok I1 ea c hm l ?_
  exact PySem.W.callWith_K0 (first := [.ref a]) I1.kIn hm.kp (run_fnN (us := [.ref a]) (vs := [.ref a]) F hr hb (hx σ) I1 (.cons rfl .nil) q)
theorem pe_call0S (F : FnOk X.prog X.w X.K X.mg X.base CX k f fd ps sp) (hr : Room k X.A) (hg : Gl X x) (hm : X.mg x = some (.ref f)) (hk : PySem.W.keepIn X.K (.ref f) = true) (hb : Binds X.K fd ps []) (hx : ∀ σ, PassesAt CX X σ (E σ))
    (hdb : (x == ("__debug__" : Str)) = false := by decide) : PE X (.Call (.Name x p) [] [] pos) (tCallS sp E tNil) := by
  refine ⟨fun pins s σ H Q I h => ?_⟩
  refine wpAny_Call_Name_kw (ld_glob I hg hm ?_ hdb)
  exact PySem.W.callWith_K0 I.kIn hk (run_fnN (us := []) F hr hb (hx σ) I .nil h)
def tMakeS (C : Addr) (sp : Sp) (E : L2.St → XK) (t : TA) : TE := fun σ H Q => t σ H fun vs H1 => ∀ x dx, H1 x = none → H1 dx = none → dx ≠ x →
  sp (.ref x :: vs) (upd (upd H1 dx (.own x)) x (.ins C dx [])) (fun v H2 => v = .non ∧ Q (.ref x) H2) (E σ)
theorem run_makeS {pins : List (Addr × Obj)} {σ : L2.St} {H : Hp} {s : Shared} {Q : VK} {us : List Value} {vs : List V} (M : Mk X.K C f) (F : FnOk X.prog X.w X.K X.mg X.base CX k f fd ps sp) (hr : Room (k + 1) X.A) (hb : Binds X.K fd ps [])
    (hx : PassesAt CX X σ (E σ)) (I : Inv X pins σ H s) (r : Vals vs us)
    (h : ∀ x dx, H x = none → H dx = none → dx ≠ x → sp (.ref x :: vs) (upd (upd H dx (.own x)) x (.ins C dx [])) (fun v H2 => v = .non ∧ Q (.ref x) H2) (E σ)) :
    wpAny (model X.prog X.w) X.A (call (.ref C) us) (EP X pins σ Q) X.xe s := by
  have hq := h (s.heap.objs.size + 1) s.heap.objs.size (I.hok.fresh (Nat.le_succ _)) (I.hok.fresh (Nat.le_refl _)) (Nat.ne_of_lt (Nat.lt_succ_self _))
  have I2 := Inv.made (C := C) I
  have r2 : Vals (V.ref (s.heap.objs.size + 1) :: vs) (Value.ref (s.heap.objs.size + 1) :: us) := .cons rfl r
  have hl : (Value.ref (s.heap.objs.size + 1) :: us ++ []).length = ps.length := by
    have e := r2.length
    rw [F.len _ _ _ _ hq] at e
    rw [List.append_nil]
    exact e.symm
  have hbb := hb { s with heap := (s.heap.push PySem.W.emptyDict).push (PySem.W.instObj C s.heap.objs.size) } (Value.ref (s.heap.objs.size + 1) :: us) I2.kIn hl
  rw [List.append_nil] at hbb
  refine wpAny_call (make_map (f := f) I.kIn M.makes M.init (beq_iff_eq.mp M.fn) (codeAny_mono (F.run _ X.stack _ _ ⟨Value.ref (s.heap.objs.size + 1) :: us, []⟩ (Value.ref (s.heap.objs.size + 1) :: us) _ _ (E σ) (hr.make C us [])
    (I2.env0.make C us []) hbb r2 hq) fun r s' hq' => ?_))
  cases r with
  | error e => exact hx pins _ _ e s' I2 hq'
  | ok fl =>
    cases fl with
    | ret u =>
      obtain ⟨v, H', I3, rv, ev, q3⟩ := I2.after hq'
      subst ev
      exact ⟨rv, ⟨V.ref (s.heap.objs.size + 1), H', I3, rfl, q3⟩⟩
    | next => exact False.elim hq'
    | brk => exact False.elim hq'
    | cont => exact False.elim hq'
theorem pe_makeS (M : Mk X.K C f) (F : FnOk X.prog X.w X.K X.mg X.base CX k f fd ps sp) (hr : Room (k + 1) X.A) (hg : Gl X x) (hm : X.mg x = some (.ref C)) (hb : Binds X.K fd ps []) (hx : ∀ σ, PassesAt CX X σ (E σ))
    (ha : PA X (e :: es) t) (hdb : (x == ("__debug__" : Str)) = false := by decide) (he : starEach (e :: es) X.env = (false, eval e X.env) :: starEach es X.env := by rfl) (hpl : (backTo pos (starEach es X.env)).any (·.1) = false := by rfl) :
    PE X (.Call (.Name x p) (e :: es) [] pos) (tMakeS C sp E t) := by
  refine ⟨fun pins s σ H Q I h => ?_⟩
  refine wpAny_Call_Name_kw (ld_glob I hg hm ?_ hdb)
  refine PySem.W.callWith_K (h₀ := X.base) I.ok.mod.kin M.kp (thn (ha.run pos pins s σ H _ I h) fun us s1 ⟨vs, H1, I1, r, q⟩ => ⟨I1.kIn, ?_⟩) he hpl
  exact run_makeS M F hr hb (hx σ) I1 r q
end

/-! ### arguments, displays -/
def wNil : WPa := fun _ S Q _ => Q [] S
def wCons (w : WPe) (r : WPa) : WPa := fun env S Q X => w env S (fun d S1 => r env S1 (fun ds S2 => Q (d :: ds) S2) X) X
def wLst (w : WPa) : WPe := fun env S Q X => w env S (fun ds S1 => ds.length ≤ sizeLine ∧ Q (.lst ds) S1) X
def wLstM (w : WPa) : WPe := fun env S Q X => w env S (fun ds S1 => ds.length ≤ sizeLine ∧ ∀ p, S1 p = none → Q (.ref p) (put S1 p (.lst ds))) X
def wTup (w : WPa) : WPe := fun env S Q X => w env S (fun ds S1 => ds.length ≤ sizeLine ∧ Q (.tup ds) S1) X
section
variable {X : Cx} {e : Expr} {es : List Expr} {pos : Pos} {w : WPe} {r : WPa}
theorem pda_nil : PDa X [] wNil := ⟨fun Wx tk => PA.imp pa_nil fun σ H Q ⟨W, env, S, Q0, X1, ok, sl, hw, cv, cx⟩ => cv [] S [] W H hw Stp.refl ok rfl⟩
theorem pda_cons (he : PD X e w) (hr : PDa X es r) (hs : starEach (e :: es) X.env = (false, eval e X.env) :: starEach es X.env := by rfl) : PDa X (e :: es) (wCons w r) :=
  ⟨fun Wx tk => PA.imp (pa_cons (he.run Wx tk) (hr.run Wx tk) hs) fun σ H Q ⟨W, env, S, Q0, X1, ok, sl, hw, cv, cx⟩ => ⟨W, env, S, _, X1, ok, sl, hw, fun d S1 v W1 H1 h1 s1 ok1 r1 =>
    ⟨W1, env, S1, _, X1, ok1, sl.mono s1.vis, h1, fun ds S2 vs W2 H2 h2 s2 ok2 r2 => cv (d :: ds) S2 (v :: vs) W2 H2 h2 (s1.trans s2) ok2 ⟨v, vs, rfl, r1.mono s2.vis, r2⟩, cx.mono s1⟩, cx⟩⟩
theorem pd_lst (h : PDa X es r) : PD X (.List es pos) (wLst r) :=
  ⟨fun Wx tk => PE.imp (pe_lst (h.run Wx tk)) fun σ H Q ⟨W, env, S, Q0, X1, ok, sl, hw, cv, cx⟩ => ⟨W, env, S, _, X1, ok, sl, hw, fun ds S1 vs W1 H1 ⟨hz, h1⟩ s1 ok1 r1 =>
    ⟨by rw [r1.length]; exact hz, fun p hp => cv _ S1 _ _ _ h1 (s1.trans (ok1.stW hp)) (ok1.newW hp) ⟨p, vs, rfl, upd_same, r1.mono (same_new (ok1.fresh hp).1)⟩⟩, cx⟩⟩
theorem pd_lstM (h : PDa X es r) : PD X (.List es pos) (wLstM r) :=
  ⟨fun Wx tk => PE.imp (pe_lst (h.run Wx tk)) fun σ H Q ⟨W, env, S, Q0, X1, ok, sl, hw, cv, cx⟩ => ⟨W, env, S, _, X1, ok, sl, hw, fun ds S1 vs W1 H1 ⟨hz, h1⟩ s1 ok1 r1 =>
    ⟨by rw [r1.length]; exact hz, fun p hp => cv _ _ _ _ _ (h1 p (ok1.fresh hp).2) (s1.trans (ok1.stS hp)) (ok1.newS hp ⟨vs, rfl, r1⟩) rfl⟩, cx⟩⟩
theorem pd_tup {z : Nat} (h : PDa X es r) : PD X (.Tuple es z pos) (wTup r) :=
  ⟨fun Wx tk => PE.imp (pe_tup (h.run Wx tk)) fun σ H Q ⟨W, env, S, Q0, X1, ok, sl, hw, cv, cx⟩ => ⟨W, env, S, _, X1, ok, sl, hw, fun ds S1 vs W1 H1 ⟨hz, h1⟩ s1 ok1 r1 =>
    ⟨by rw [r1.length]; exact hz, fun p hp => cv _ S1 _ _ _ h1 (s1.trans (ok1.stW hp)) (ok1.newW hp) ⟨p, vs, rfl, SqT.of upd_same, r1.mono (same_new (ok1.fresh hp).1)⟩⟩, cx⟩⟩
end

/-! ### calls of own defs -/
abbrev FnD (P : Program) (w : World) (K : PySem.W.Frag) (mg : Str → Option Value) (base : Heap) (k : Nat) (f : Addr) (fd : FuncData) (ps : List Str) (spec : Ctr) : Prop := FnOk P w K mg base (L2.CX P w) k f fd ps (lSp K spec)
def wCall (spec : Ctr) (wa : WPa) : WPe := fun env S Q X => wa env S (fun ds S1 => spec ds S1 Q X) X
/-- an instance of C whose fields are N -/
def isIns (C : Addr) (N : List Str) (S : Sto) (d : D) : Prop := match d with
  | .ref a => match S a with
    | some (.ins C' N' _) => C' = C ∧ N' = N
    | _ => False
  | .obj C' N' _ => C' = C ∧ N' = N
  | _ => False
def wMeth (C : Addr) (N : List Str) (spec : Ctr) (wo : WPe) (wa : WPa) : WPe := fun env S Q X => wo env S (fun o S1 => isIns C N S1 o ∧ wa env S1 (fun ds S2 => spec (o :: ds) S2 Q X) X) X
def noneV : List Str → DE
  | [] => []
  | _ :: r => none :: noneV r
def wMake (C : Addr) (N : List Str) (spec : Ctr) (wa : WPa) : WPe := fun env S Q X => wa env S (fun ds S1 => ∀ x, S1 x = none → spec (.ref x :: ds) (put S1 x (.ins C N (noneV N))) (fun r S2 => r = .non ∧ Q (.ref x) S2) X) X
theorem getV_noneV : ∀ {N : List Str} {i : Nat}, getV (noneV N) i = none
  | [], _ => rfl
  | _ :: _, 0 => rfl
  | _ :: r, i + 1 => getV_noneV (N := r) (i := i)
theorem noneV_length : ∀ {N : List Str}, (noneV N).length = N.length
  | [] => rfl
  | _ :: r => congrArg (· + 1) (noneV_length (N := r))
theorem frep_new {K : PySem.W.Frag} {W : Hp} {N : List Str} (hn : N.Nodup) (hf : N.length ≤ 900) : FRep K W N (noneV N) [] :=
  ⟨hn, hf, noneV_length, (fun i f d _ h => by
    rw [getV_noneV] at h
    cases h), (fun _ _ _ _ => rfl), (fun _ _ => rfl), Nat.zero_le _⟩
theorem Ok.junk {K : PySem.W.Frag} {W : Hp} {S : Sto} {H : Hp} {p : Addr} {o : HO} (ok : Ok K W S H) (h : H p = none) : Ok K W S (upd H p o) :=
  ⟨fun b x e => by rw [upd_ne (ne_of_none (ok.vis _ _ e) h)]; exact ok.vis _ _ e, fun a m e => by
    obtain ⟨x, e1, e2⟩ := ok.sto _ _ e
    exact ⟨x, by rw [upd_ne (ne_of_none e1 h)]; exact e1, e2⟩, ok.sep⟩
theorem isIns_rep {K : PySem.W.Frag} {W : Hp} {S : Sto} {H : Hp} {C : Addr} {N : List Str} {d : D} {v : V} (ok : Ok K W S H) (r : Rep K W d v) (h : isIns C N S d) {m : Str} (hm : m ∉ N) : ∃ a dx fs, v = .ref a ∧ H a = some (.ins C dx fs) ∧ fs.lookup m = none := by
  cases d with
  | ref a =>
    have h' : (match S a with | some (.ins C' N' _) => C' = C ∧ N' = N | _ => False) := h
    cases q : S a with
    | none => rw [q] at h'; exact h'.elim
    | some mo =>
      rw [q] at h'
      cases mo with
      | ins C' N' xs =>
        obtain ⟨e1, e2⟩ := h'
        subst e1 e2
        obtain ⟨o, e3, dx, gs, e4, fr⟩ := ok.sto _ _ q
        subst e4
        exact ⟨a, dx, gs, r, e3, fr.out m hm⟩
      | _ => exact h'.elim
  | obj C' N' xs =>
    obtain ⟨e1, e2⟩ := h
    subst e1 e2
    obtain ⟨a, dx, gs, vs, e1, e2, _, e4, _⟩ := r
    exact ⟨a, dx, gs, e1, ok.vis _ _ e2, e4 m hm⟩
  | _ => exact h.elim
section
variable {X : Cx} {k : Nat} {f C : Addr} {fd : FuncData} {ps : List Str} {spec : Ctr} {x m : Str} {p pos apos : Pos} {e o : Expr} {es : List Expr} {wo : WPe} {wa : WPa}
theorem call_go {Wx : WX} {σ : L2.St} {H : Hp} {Q : VK} {K : PySem.W.Frag} (h : lE K Wx (wCall spec wa) σ H Q) : tCallS (lSp K spec) (WE Wx) (lA K Wx wa) σ H Q := by
  obtain ⟨W, env, S, Q0, X1, ok, sl, hw, cv, cx⟩ := h
  exact ⟨W, env, S, _, X1, ok, sl, hw, fun ds S1 vs W1 H1 h1 s1 ok1 r1 => ⟨W1, S1, ds, Q0, X1, ok1, r1, h1, cv.mono s1, cx.mono s1⟩, cx⟩
theorem pd_call (F : FnD X.prog X.w X.K X.mg X.base k f fd ps spec) (hr : Room k X.A) (hm : X.mg x = some (.ref f)) (hk : PySem.W.keepIn X.K (.ref f) = true) (hb : Binds X.K fd ps [])
    (ha : PDa X (e :: es) wa) (hg : Gl X x := by rfl) (hdb : (x == ("__debug__" : Str)) = false := by decide) (he : starEach (e :: es) X.env = (false, eval e X.env) :: starEach es X.env := by rfl) (hpl : (backTo pos (starEach es X.env)).any (·.1) = false := by rfl) :
    PD X (.Call (.Name x p) (e :: es) [] pos) (wCall spec wa) :=
  ⟨fun Wx tk => PE.imp (pe_callS F hr hg hm hk hb (fun σ => passAt tk σ) (ha.run Wx tk) hdb he hpl) fun _ _ _ h => call_go h⟩
theorem pd_call0 (F : FnD X.prog X.w X.K X.mg X.base k f fd ps spec) (hr : Room k X.A) (hm : X.mg x = some (.ref f)) (hk : PySem.W.keepIn X.K (.ref f) = true) (hb : Binds X.K fd ps [])
    (hg : Gl X x := by rfl) (hdb : (x == ("__debug__" : Str)) = false := by decide) : PD X (.Call (.Name x p) [] [] pos) (wCall spec wNil) :=
  ⟨fun Wx tk => PE.imp (pe_call0S F hr hg hm hk hb (fun σ => passAt tk σ) hdb) fun σ H Q h => by
    obtain ⟨W, env, S, Q0, X1, ok, sl, hw, cv, cx⟩ := h
    exact ⟨W, S, [], Q0, X1, ok, rfl, hw, cv, cx⟩⟩
theorem pd_meth {N : List Str} {pl : Sem Bool} (c : Cls X.K C) (hm : Meth X.K C m f) (hN : m ∉ N) (F : FnD X.prog X.w X.K X.mg X.base k f fd ps spec) (hr : Room k X.A) (hb : Binds X.K fd ps []) (ho : PD X o wo) (ha : PDa X (e :: es) wa)
    (hst : starEach (e :: es) X.env = (false, eval e X.env) :: starEach es X.env := by rfl) (hpl : (backTo pos (starEach es X.env)).any (·.1) = false := by rfl)
    (ht : eval (.Call (.Attribute o m apos) (e :: es) [] pos) X.env = (do
      let ov ← eval o X.env
      standAt apos.atName
      let (f, first) ← holding [ov] (getMethod ov m pl)
      callWith pos f first (backTo pos (starEach (e :: es) X.env)) (backToKw pos (keywordEach [] X.env))) := by rfl) : PD X (.Call (.Attribute o m apos) (e :: es) [] pos) (wMeth C N spec wo wa) :=
  ⟨fun Wx tk => PE.imp (pe_methS (E := WE Wx) (ho.run Wx tk) c hm F hr hb (fun σ => passAt tk σ) (ha.run Wx tk) hst hpl ht) fun σ H Q ⟨W, env, S, Q0, X1, ok, sl, hw, cv, cx⟩ => ⟨W, env, S, _, X1, ok, sl, hw, fun d S1 v W1 H1 ⟨hi, h1⟩ s1 ok1 r1 => by
    obtain ⟨a, dx, fs, e1, e2, e3⟩ := isIns_rep ok1 r1 hi hN
    exact ⟨a, dx, fs, e1, e2, e3, W1, env, S1, _, X1, ok1, sl.mono s1.vis, h1, fun ds S2 vs W2 H2 h2 s2 ok2 r2 => ⟨W2, S2, d :: ds, Q0, X1, ok2, ⟨v, vs, rfl, r1.mono s2.vis, r2⟩, h2, cv.mono (s1.trans s2), cx.mono (s1.trans s2)⟩, cx.mono s1⟩, cx⟩⟩
theorem pd_meth0 {N : List Str} {pl : Sem Bool} (c : Cls X.K C) (hm : Meth X.K C m f) (hN : m ∉ N) (F : FnD X.prog X.w X.K X.mg X.base k f fd ps spec) (hr : Room k X.A) (hb : Binds X.K fd ps []) (ho : PD X o wo)
    (ht : eval (.Call (.Attribute o m apos) [] [] pos) X.env = (do
      let ov ← eval o X.env
      standAt apos.atName
      let (f, first) ← holding [ov] (getMethod ov m pl)
      callWith pos f first (backTo pos (starEach [] X.env)) (backToKw pos (keywordEach [] X.env))) := by rfl) : PD X (.Call (.Attribute o m apos) [] [] pos) (wMeth C N spec wo wNil) :=
  ⟨fun Wx tk => PE.imp (pe_meth0S (E := WE Wx) (ho.run Wx tk) c hm F hr hb (fun σ => passAt tk σ) ht) fun σ H Q ⟨W, env, S, Q0, X1, ok, sl, hw, cv, cx⟩ => ⟨W, env, S, _, X1, ok, sl, hw, fun d S1 v W1 H1 ⟨hi, h1⟩ s1 ok1 r1 => by
    obtain ⟨a, dx, fs, e1, e2, e3⟩ := isIns_rep ok1 r1 hi hN
    exact ⟨a, dx, fs, e1, e2, e3, W1, S1, [d], Q0, X1, ok1, ⟨v, [], rfl, r1, rfl⟩, h1, cv.mono s1, cx.mono s1⟩, cx⟩⟩
theorem pd_make {N : List Str} (M : Mk X.K C f) (hN : N.Nodup) (hl : N.length ≤ 900) (F : FnD X.prog X.w X.K X.mg X.base k f fd ps spec) (hr : Room (k + 1) X.A) (hm : X.mg x = some (.ref C)) (hb : Binds X.K fd ps [])
    (ha : PDa X (e :: es) wa) (hg : Gl X x := by rfl) (hdb : (x == ("__debug__" : Str)) = false := by decide) (he : starEach (e :: es) X.env = (false, eval e X.env) :: starEach es X.env := by rfl) (hpl : (backTo pos (starEach es X.env)).any (·.1) = false := by rfl) :
    PD X (.Call (.Name x p) (e :: es) [] pos) (wMake C N spec wa) :=
  ⟨fun Wx tk => PE.imp (pe_makeS (E := WE Wx) M F hr hg hm hb (fun σ => passAt tk σ) (ha.run Wx tk) hdb he hpl) fun σ H Q ⟨W, env, S, Q0, X1, ok, sl, hw, cv, cx⟩ => ⟨W, env, S, _, X1, ok, sl, hw, fun ds S1 vs W1 H1 h1 s1 ok1 r1 y dy hy hdy hne => by
    have hy2 : (upd H1 dy (HO.own y)) y = none := by rw [upd_ne (Ne.symm hne)]; exact hy
    have ok2 := (ok1.junk (o := .own y) hdy).newS (m := .ins C N (noneV N)) (o := .ins C dy []) hy2 ⟨dy, [], rfl, frep_new hN hl⟩
    have st := (ok1.stJ (o := .own y) hdy).trans (Ok.stS (m := .ins C N (noneV N)) (o := .ins C dy []) (ok1.junk (o := .own y) hdy) hy2)
    exact ⟨W1, _, .ref y :: ds, _, X1, ok2, ⟨_, _, rfl, rfl, r1⟩, h1 y (ok1.fresh hy).2, fun d S2 v W2 H2 ⟨hd, h2⟩ s2 ok3 r2 => by
      subst hd
      exact ⟨r2, cv _ S2 _ W2 H2 h2 (s1.trans (st.trans s2)) ok3 rfl⟩, cx.mono (s1.trans st)⟩, cx⟩⟩
end

/-! ### a mutable object as data from now on; a mutable list lent as data -/
def allV : DE → Option (List D)
  | [] => some []
  | none :: _ => none
  | some d :: r => (allV r).map (d :: ·)
def frzD (S : Sto) (d : D) (Q : Qd) : Prop := match d with
  | .ref a => match S a with
    | some (.lst xs) => Q (.lst xs) (del S a)
    | some (.ins C N xs) => some! (allV xs) fun ys => Q (.obj C N ys) (del S a)
    | _ => False
  | _ => Q d S
def wFrz (w : WPe) : WPe := fun env S Q X => w env S (fun d S1 => frzD S1 d Q) X
theorem allV_get : ∀ {xs : DE} {ys : List D}, allV xs = some ys → ys.length = xs.length ∧ ∀ i, getV xs i = ys[i]?
  | [], ys, h => by
    cases h
    exact ⟨rfl, fun i => by simp [getV]⟩
  | none :: _, ys, h => by cases h
  | some d :: r, ys, h => by
    have h' : (allV r).map (d :: ·) = some ys := h
    cases q : allV r with
    | none => rw [q] at h'; cases h'
    | some zs =>
      rw [q] at h'
      cases h'
      obtain ⟨a, b⟩ := allV_get q
      refine ⟨congrArg (· + 1) a, fun i => ?_⟩
      cases i with
      | zero => rfl
      | succ i => exact b i
theorem reps_of_get {K : PySem.W.Frag} {W : Hp} : ∀ {ys : List D} {g : Nat → Option V}, (∀ i d, ys[i]? = some d → ∃ v, g i = some v ∧ Rep K W d v) → (∀ i, ys.length ≤ i → g i = none) → ∃ vs : List V, Reps K W ys vs ∧ ∀ i, g i = vs[i]?
  | [], g, _, h2 => ⟨[], rfl, fun i => by rw [h2 i (Nat.zero_le _)]; simp⟩
  | d :: r, g, h1, h2 => by
    obtain ⟨v, e, rv⟩ := h1 0 d rfl
    obtain ⟨vs, rr, q⟩ := reps_of_get (ys := r) (g := fun i => g (i + 1)) (fun i d h => h1 (i + 1) d h) (fun i h => h2 (i + 1) (Nat.succ_le_succ h))
    refine ⟨v :: vs, ⟨v, vs, rfl, rv, rr⟩, fun i => ?_⟩
    cases i with
    | zero => exact e
    | succ i => exact q i
theorem frz_go {K : PySem.W.Frag} {W : Hp} {S : Sto} {H : Hp} {d : D} {v : V} {Q0 : Qd} {Q : VK} (ok : Ok K W S H) (r : Rep K W d v) (h : frzD S d Q0) (cv : CV K W S H Q0 Q) : Q v H := by
  cases d with
  | ref a =>
    have r' : v = .ref a := r
    subst r'
    cases q : S a with
    | none => unfold frzD at h; simp only [q] at h
    | some mo =>
      obtain ⟨o, e1, e2⟩ := ok.sto _ _ q
      have hW := ok.sep _ _ q
      cases mo with
      | lst xs =>
        unfold frzD at h
        simp only [q] at h
        obtain ⟨vs, e3, e4⟩ := e2
        subst e3
        exact cv _ _ _ _ _ h (ok.stF q) (ok.frz q e1) ⟨a, vs, rfl, upd_same, e4.mono (same_new hW)⟩
      | ins C N xs =>
        unfold frzD at h
        simp only [q] at h
        obtain ⟨ys, e5, h⟩ := some!_ex h
        obtain ⟨dx, gs, e3, fr⟩ := e2
        subst e3
        obtain ⟨l1, g1⟩ := allV_get e5
        have hlen : N.length = ys.length := by rw [l1, fr.len]
        obtain ⟨vs, rv, gv⟩ := reps_of_get (K := K) (W := W) (ys := ys) (g := fun i => (N[i]?).bind fun f => gs.lookup f) (fun i d hd => by
          have hi : i < N.length := by rw [hlen]; exact lt_of_some hd
          obtain ⟨v, c, rr⟩ := fr.is i N[i] d (List.getElem?_eq_getElem hi) (by rw [g1]; exact hd)
          exact ⟨v, by rw [List.getElem?_eq_getElem hi]; exact c, rr⟩) (fun i hi => by
          rw [List.getElem?_eq_none (by omega)]; rfl)
        refine cv _ _ _ _ _ h (ok.stF q) (ok.frz q e1) ⟨a, dx, gs, vs, rfl, upd_same, fun i f hf => ?_, fr.out, rv.mono (same_new hW)⟩
        rw [← gv i]
        show _ = (N[i]?).bind _
        rw [hf]; rfl
      | _ =>
        unfold frzD at h
        simp only [q] at h
  | _ => exact cv _ _ _ _ _ h Stp.refl ok r
section
variable {X : Cx} {e : Expr} {w : WPe}
theorem pd_frz (h : PD X e w) : PD X e (wFrz w) := ⟨fun Wx tk => PE.imp (h.run Wx tk) fun σ H Q ⟨W, env, S, Q0, X1, ok, sl, hw, cv, cx⟩ => ⟨W, env, S, _, X1, ok, sl, hw, fun d S1 v W1 H1 h1 s1 ok1 r1 => frz_go ok1 r1 h1 (cv.mono s1), cx⟩⟩
end
end DL
set_option Elab.async false
set_option linter.all false
set_option maxRecDepth 100000
set_option maxHeartbeats 2000000
/-! The data layer, part d: operations of values. -/
namespace DL
open PySem PySem.Spec PyProof.Rows L2

/-! ### lists and tuples, however held -/
def seqM (S : Sto) (d : D) : Option (List D) := match d with
  | .lst xs => some xs
  | .ref a => match S a with
    | some (.lst xs) => some xs
    | _ => none
  | _ => none
def seqL (S : Sto) (d : D) : Option (List D) := match d with
  | .fro xs => some xs
  | d => seqM S d
/-- a list or a tuple -/
def seqA (S : Sto) (d : D) : Option (List D) := match d with
  | .tup xs => some xs
  | d => seqL S d
section
variable {K : PySem.W.Frag} {W : Hp} {S : Sto} {H : Hp} {d : D} {v : V} {xs : List D}
theorem seqM_rep (ok : Ok K W S H) (r : Rep K W d v) (h : seqM S d = some xs) : ∃ a vs, v = .ref a ∧ H a = some (.lst vs) ∧ Reps K W xs vs := by
  cases d with
  | lst ys =>
    cases h
    obtain ⟨a, vs, e1, e2, e3⟩ := r
    exact ⟨a, vs, e1, ok.vis _ _ e2, e3⟩
  | ref a =>
    have h' : (match S a with | some (.lst xs) => some xs | _ => none) = some xs := h
    cases q : S a with
    | none => rw [q] at h'; cases h'
    | some m =>
      rw [q] at h'
      cases m with
      | lst ys =>
        cases h'
        obtain ⟨o, e1, vs, e2, e3⟩ := ok.sto _ _ q
        subst e2
        exact ⟨a, vs, r, e1, e3⟩
      | _ => cases h'
  | _ => cases h
theorem seqL_rep (ok : Ok K W S H) (r : Rep K W d v) (h : seqL S d = some xs) : ∃ a vs, v = .ref a ∧ SqL K H a vs ∧ Reps K W xs vs := by
  cases d with
  | fro ys =>
    cases h
    obtain ⟨a, vs, e1, e2, e3⟩ := r
    exact ⟨a, vs, e1, sqL_mono ok.vis e2, e3⟩
  | lst ys =>
    obtain ⟨a, vs, e1, e2, e3⟩ := seqM_rep ok r h
    exact ⟨a, vs, e1, SqL.of e2, e3⟩
  | ref a =>
    obtain ⟨a, vs, e1, e2, e3⟩ := seqM_rep ok r h
    exact ⟨a, vs, e1, SqL.of e2, e3⟩
  | _ => cases h
theorem seqA_rep (ok : Ok K W S H) (r : Rep K W d v) (h : seqA S d = some xs) : ∃ a vs, v = .ref a ∧ (SqL K H a vs ∨ SqT K H a vs) ∧ Reps K W xs vs := by
  cases d with
  | tup ys =>
    cases h
    obtain ⟨a, vs, e1, e2, e3⟩ := r
    exact ⟨a, vs, e1, .inr (sqT_mono ok.vis e2), e3⟩
  | fro ys =>
    obtain ⟨a, vs, e1, e2, e3⟩ := seqL_rep ok r h
    exact ⟨a, vs, e1, .inl e2, e3⟩
  | lst ys =>
    obtain ⟨a, vs, e1, e2, e3⟩ := seqL_rep ok r h
    exact ⟨a, vs, e1, .inl e2, e3⟩
  | ref a =>
    obtain ⟨a, vs, e1, e2, e3⟩ := seqL_rep ok r h
    exact ⟨a, vs, e1, .inl e2, e3⟩
  | _ => cases h
theorem seqM_put {p : Addr} {m : MO} (h : seqM S d = some xs) (hp : S p = none) : seqM (put S p m) d = some xs := by
  cases d with
  | ref a =>
    have h' : (match S a with | some (.lst xs) => some xs | _ => none) = some xs := h
    have ne : a ≠ p := fun e => by subst e; rw [hp] at h'; cases h'
    show (match put S p m a with | some (.lst xs) => some xs | _ => none) = some xs
    rw [put_ne ne]; exact h'
  | _ => exact h
theorem seqL_put {p : Addr} {m : MO} (h : seqL S d = some xs) (hp : S p = none) : seqL (put S p m) d = some xs := by
  cases d with
  | fro ys => exact h
  | ref a => exact seqM_put (d := .ref a) h hp
  | lst ys => exact h
  | _ => cases h
theorem seqA_put {p : Addr} {m : MO} (h : seqA S d = some xs) (hp : S p = none) : seqA (put S p m) d = some xs := by
  cases d with
  | tup ys => exact h
  | fro ys => exact h
  | ref a => exact seqM_put (d := .ref a) h hp
  | lst ys => exact h
  | _ => cases h
/-- a change at p, which is not this list -/
theorem seqA_chg {p : Addr} {m : MO} (h : seqA S d = some xs) (hp : ∀ a, d = .ref a → a ≠ p) : seqA (put S p m) d = some xs := by
  cases d with
  | ref a =>
    have h' : (match S a with | some (.lst xs) => some xs | _ => none) = some xs := h
    show (match put S p m a with | some (.lst xs) => some xs | _ => none) = some xs
    rw [put_ne (hp a rfl)]; exact h'
  | _ => exact h
theorem vals_le {P : Program} {w : World} {h : Heap} {a : Addr} {vs : List V} (hok : HOk P w H h) (e : H a = some (.lst vs)) : vs.length ≤ sizeLine := (hok a _ e).1
end

/-! ### ints in data -/
def toInts : List D → Option (List Int)
  | [] => some []
  | .int i :: r => (toInts r).map (i :: ·)
  | _ :: _ => none
theorem toInts_map : ∀ ns : List Int, toInts (ns.map D.int) = some ns
  | [] => rfl
  | i :: r => by
    show (toInts (r.map D.int)).map (i :: ·) = some (i :: r)
    rw [toInts_map r]; rfl
theorem toInts_rep {K : PySem.W.Frag} {W : Hp} : ∀ {xs : List D} {ns : List Int} {vs : List V}, toInts xs = some ns → Reps K W xs vs → vs = ns.map V.int
  | [], ns, vs, h, r => by
    cases h
    exact r
  | .int i :: xs, ns, vs, h, ⟨v, q, e1, e2, e3⟩ => by
    have h' : (toInts xs).map (i :: ·) = some ns := h
    cases z : toInts xs with
    | none => rw [z] at h'; cases h'
    | some ms =>
      rw [z] at h'
      cases h'
      subst e1
      have e2' : v = .int i := e2
      rw [toInts_rep z e3, e2']; rfl
  | .non :: _, _, _, h, _ => by cases h
  | .bl _ :: _, _, _, h, _ => by cases h
  | .str _ :: _, _, _, h, _ => by cases h
  | .ref _ :: _, _, _, h, _ => by cases h
  | .lst _ :: _, _, _, h, _ => by cases h
  | .tup _ :: _, _, _, h, _ => by cases h
  | .fro _ :: _, _, _, h, _ => by cases h
  | .obj _ _ _ :: _, _, _, h, _ => by cases h
def toBls : List D → Option (List Bool)
  | [] => some []
  | .bl i :: r => (toBls r).map (i :: ·)
  | _ :: _ => none
theorem toBls_map : ∀ ns : List Bool, toBls (ns.map D.bl) = some ns
  | [] => rfl
  | i :: r => by
    show (toBls (r.map D.bl)).map (i :: ·) = some (i :: r)
    rw [toBls_map r]; rfl
theorem toBls_rep {K : PySem.W.Frag} {W : Hp} : ∀ {xs : List D} {ns : List Bool} {vs : List V}, toBls xs = some ns → Reps K W xs vs → vs = ns.map V.bl
  | [], ns, vs, h, r => by
    cases h
    exact r
  | .bl i :: xs, ns, vs, h, ⟨v, q, e1, e2, e3⟩ => by
    have h' : (toBls xs).map (i :: ·) = some ns := h
    cases z : toBls xs with
    | none => rw [z] at h'; cases h'
    | some ms =>
      rw [z] at h'
      cases h'
      subst e1
      have e2' : v = .bl i := e2
      rw [toBls_rep z e3, e2']; rfl
  | .non :: _, _, _, h, _ => by cases h
  | .int _ :: _, _, _, h, _ => by cases h
  | .str _ :: _, _, _, h, _ => by cases h
  | .ref _ :: _, _, _, h, _ => by cases h
  | .lst _ :: _, _, _, h, _ => by cases h
  | .tup _ :: _, _, _, h, _ => by cases h
  | .fro _ :: _, _, _, h, _ => by cases h
  | .obj _ _ _ :: _, _, _, h, _ => by cases h

/-! ### operators on ints -/
section
variable {X : Cx}
def oI (C : Int → Int → Prop) (g : Int → Int → D) : O2 := fun S x y Q => match x, y with
  | .int i, .int j => C i j ∧ Q (g i j) S
  | _, _ => False
def oI0 (g : Int → Int → D) : O2 := fun S x y Q => match x, y with
  | .int i, .int j => Q (g i j) S
  | _, _ => False
theorem OpR.imp {f : Value → Value → Sem Value} {r r' : R2} (h : OpR X f r) (i : ∀ x y H Q, r' x y H Q → r x y H Q) : OpR X f r' := fun pins s σ H x y v u Q I rx ry q => h pins s σ H x y v u Q I rx ry (i _ _ _ _ q)
theorem opI_of {f : Value → Value → Sem Value} {C : Int → Int → Prop} {g : Int → Int → D} {gv : Int → Int → V} (h : OpR X f (rI C gv)) (r : ∀ i j W, Rep X.K W (g i j) (gv i j)) : OpR X f (lOp X.K (oI C g)) :=
  OpR.imp h fun x y H Q ⟨W, S, a, b, Q0, ok, ra, rb, ho, cv⟩ => by
    cases a with
    | int i =>
      cases b with
      | int j => exact ⟨i, j, ra, rb, ho.1, cv _ S _ W H ho.2 Stp.refl ok (r i j W)⟩
      | _ => exact ho.elim
    | _ => exact ho.elim
theorem opI0_of {f : Value → Value → Sem Value} {g : Int → Int → D} {gv : Int → Int → V} (h : OpR X f (rI0 gv)) (r : ∀ i j W, Rep X.K W (g i j) (gv i j)) : OpR X f (lOp X.K (oI0 g)) :=
  OpR.imp h fun x y H Q ⟨W, S, a, b, Q0, ok, ra, rb, ho, cv⟩ => by
    cases a with
    | int i =>
      cases b with
      | int j => exact ⟨i, j, ra, rb, cv _ S _ W H ho Stp.refl ok (r i j W)⟩
      | _ => exact ho.elim
    | _ => exact ho.elim
abbrev oSub : O2 := oI0 fun i j => .int (i - j)
abbrev oMul : O2 := oI CMulW fun i j => .int (i * j)
abbrev oDiv : O2 := oI CDivW fun i j => .int (i / j)
abbrev oMod : O2 := oI (fun _ j => 0 < j) fun i j => .int (i % j)
abbrev oPow : O2 := oI CPow fun i j => .int (i ^ j.toNat)
abbrev oLt : O2 := oI0 fun i j => .bl (decide (i < j))
abbrev oLe : O2 := oI0 fun i j => .bl (decide (i ≤ j))
abbrev oGt : O2 := oI0 fun i j => .bl (decide (j < i))
abbrev oGe : O2 := oI0 fun i j => .bl (decide (j ≤ i))
theorem opd_sub : OpR X (binaryOp .Sub) (lOp X.K oSub) := opI0_of op_sub fun _ _ _ => rfl
theorem opd_mul : OpR X (binaryOp .Mult) (lOp X.K oMul) := opI_of op_mulW fun _ _ _ => rfl
theorem opd_div : OpR X (binaryOp .FloorDiv) (lOp X.K oDiv) := opI_of op_fdivW fun _ _ _ => rfl
theorem opd_mod : OpR X (binaryOp .Mod) (lOp X.K oMod) := opI_of op_mod fun _ _ _ => rfl
theorem opd_pow : OpR X (binaryOp .Pow) (lOp X.K oPow) := opI_of op_pow fun _ _ _ => rfl
theorem opd_lt : OpR X (compareOp .Lt) (lOp X.K oLt) := opI0_of op_lt fun _ _ _ => rfl
theorem opd_le : OpR X (compareOp .LtE) (lOp X.K oLe) := opI0_of op_le fun _ _ _ => rfl
theorem opd_gt : OpR X (compareOp .Gt) (lOp X.K oGt) := opI0_of op_gt fun _ _ _ => rfl
theorem opd_ge : OpR X (compareOp .GtE) (lOp X.K oGe) := opI0_of op_ge fun _ _ _ => rfl
theorem iopd_add : OpR X (inplaceOp .Add) (lOp X.K (oI0 fun i j => .int (i + j))) := opI0_of iop_add fun _ _ _ => rfl
theorem iopd_sub : OpR X (inplaceOp .Sub) (lOp X.K oSub) := opI0_of iop_sub fun _ _ _ => rfl
/-- -i -/
def oNeg : O1 := fun S x Q => match x with
  | .int i => Q (.int (-i)) S
  | _ => False
theorem und_neg : UnR X (unaryOp .USub) (lU X.K oNeg) := fun pins s σ H x v Q I rx h => by
  obtain ⟨W, S, a, Q0, ok, ra, ho, cv⟩ := h
  cases a with
  | int i => exact un_neg pins s σ H x v Q I rx ⟨i, ra, cv _ S _ W H ho Stp.refl ok rfl⟩
  | _ => exact ho.elim

/-! ### + of ints, texts, lists, tuples -/
def oCatL : O2 := fun S x y Q => some! (seqM S x) fun xs => some! (seqM S y) fun ys => xs.length + ys.length ≤ sizeLine ∧ Q (.lst (xs ++ ys)) S
def oAdd : O2 := fun S x y Q => match x, y with
  | .int i, .int j => Q (.int (i + j)) S
  | .str a, .str b => a.length + b.length ≤ sizeLine ∧ Q (.str (a ++ b)) S
  | .tup xs, .tup ys => xs.length + ys.length ≤ sizeLine ∧ Q (.tup (xs ++ ys)) S
  | x, y => oCatL S x y Q
theorem opd_add : OpR X (binaryOp .Add) (lOp X.K oAdd) := fun pins s σ H x y v u Q I rx ry h => by
  obtain ⟨W, S, a, b, Q0, ok, ra, rb, ho, cv⟩ := h
  have catL : oCatL S a b Q0 → wpAny (model X.prog X.w) X.A (binaryOp .Add v u) (EP X pins σ Q) X.xe s := fun z => by
    obtain ⟨xs, e1, z⟩ := some!_ex z
    obtain ⟨ys, e2, hz, z⟩ := some!_ex z
    obtain ⟨p, vs, rfl, hp, r1⟩ := seqM_rep ok ra e1
    obtain ⟨q, ws, rfl, hq, r2⟩ := seqM_rep ok rb e2
    refine op_cat pins s σ H _ _ v u Q I rx ry ⟨p, q, vs, ws, rfl, rfl, hp, hq, by rw [r1.length, r2.length]; exact hz, fun o no => ?_⟩
    have n := ok.fresh no
    exact cv _ S _ _ _ z (ok.stW no) (ok.newW no) ⟨o, _, rfl, upd_same, (r1.append r2).mono (same_new n.1)⟩
  cases a with
  | int i =>
    cases b with
    | int j => exact op_add pins s σ H _ _ v u Q I rx ry ⟨i, j, ra, rb, cv _ S _ W H ho Stp.refl ok rfl⟩
    | _ => exact catL ho
  | str i =>
    cases b with
    | str j => exact op_add_str pins s σ H _ _ v u Q I rx ry ⟨i, j, ra, rb, ho.1, cv _ S _ W H ho.2 Stp.refl ok rfl⟩
    | _ => exact catL ho
  | tup xs =>
    cases b with
    | tup ys =>
      obtain ⟨p, vs, rfl, hp, r1⟩ := id ra
      obtain ⟨q, ws, rfl, hq, r2⟩ := id rb
      have hp' := sqT_mono ok.vis hp
      have hq' := sqT_mono ok.vis hq
      refine op_catA pins s σ H _ _ v u Q I rx ry ⟨p, q, vs, ws, rfl, rfl, hp', hq', by rw [r1.length, r2.length]; exact ho.1, fun z => ?_, fun z1 z2 => ?_, fun z1 z2 o no => ?_⟩
      · subst z
        have e : xs = [] := List.eq_nil_of_length_eq_zero (by rw [← r1.length]; rfl)
        subst e
        exact cv _ S _ W H ho.2 Stp.refl ok ⟨q, ws, rfl, hq, r2⟩
      · subst z2
        have e : ys = [] := List.eq_nil_of_length_eq_zero (by rw [← r2.length]; rfl)
        subst e
        refine cv _ S _ W H ho.2 Stp.refl ok ⟨p, vs, rfl, hp, ?_⟩
        rw [List.append_nil]; exact r1
      · have n := ok.fresh no
        exact cv _ S _ _ _ ho.2 (ok.stW no) (ok.newW no) ⟨o, _, rfl, SqT.of upd_same, (r1.append r2).mono (same_new n.1)⟩
    | _ => exact catL ho
  | _ => exact catL ho

/-! ### == and != of data -/
mutual
def toP : D → PyData
  | .non => .none
  | .bl b => .bool b
  | .int i => .int i
  | .str x => .str x
  | .lst xs => .list (toPs xs)
  | .fro xs => .list (toPs xs)
  | .tup xs => .tuple (toPs xs)
  | .ref _ => .dict []
  | .obj _ _ _ => .dict []
def toPs : List D → List PyData
  | [] => []
  | d :: r => toP d :: toPs r
end
mutual
theorem dp_of {K : PySem.W.Frag} {W H : Hp} (e : Same W H) : ∀ {d : D} {v : V}, Rep K W d v → (toP d).canLay0 = true → Dp K H v (toP d)
  | .non, _, h, _ => by rw [show _ = V.non from h]; exact .non
  | .bl b, _, h, _ => by rw [show _ = V.bl b from h]; exact .bl b
  | .int i, _, h, _ => by rw [show _ = V.int i from h]; exact .int i
  | .str x, _, h, _ => by rw [show _ = V.str x from h]; exact .str x
  | .lst xs, _, ⟨a, vs, e1, e2, e3⟩, c => by subst e1; exact .lst (SqL.of (e _ _ e2)) (dps_of e e3 c)
  | .fro xs, _, ⟨a, vs, e1, e2, e3⟩, c => by subst e1; exact .lst (sqL_mono e e2) (dps_of e e3 c)
  | .tup xs, _, ⟨a, vs, e1, e2, e3⟩, c => by subst e1; exact .tup (sqT_mono e e2) (dps_of e e3 c)
  | .ref _, _, _, c => by cases c
  | .obj _ _ _, _, _, c => by cases c
theorem dps_of {K : PySem.W.Frag} {W H : Hp} (e : Same W H) : ∀ {d : List D} {v : List V}, Reps K W d v → PyData.canLayAll0 (toPs d) = true → DpAll K H v (toPs d)
  | [], _, h, _ => by rw [show _ = ([] : List V) from h]; exact .nil
  | d :: ds, _, ⟨v, r, e1, e2, e3⟩, c => by
    subst e1
    have c' : ((toP d).canLay0 && PyData.canLayAll0 (toPs ds)) = true := c
    rw [Bool.and_eq_true] at c'
    exact .cons (dp_of e e2 c'.1) (dps_of e e3 c'.2)
end
/-- a mutable list by what it holds -/
def resD (S : Sto) (d : D) : D := match d with
  | .ref a => match S a with
    | some (.lst xs) => .lst xs
    | _ => .ref a
  | _ => d
theorem dp_res {K : PySem.W.Frag} {W H : Hp} {S : Sto} (ok : Ok K W S H) {d : D} {v : V} (r : Rep K W d v) (c : SeqAt.shaped (toP (resD S d)) = true) : Dp K H v (toP (resD S d)) := by
  have c0 := SeqAt.canLay_of_shaped c
  cases d with
  | ref a =>
    have e : resD S (.ref a) = (match S a with | some (.lst xs) => .lst xs | _ => .ref a) := rfl
    cases q : S a with
    | none => rw [e, q] at c0; cases c0
    | some m =>
      cases m with
      | lst xs =>
        rw [e, q] at c0 ⊢
        obtain ⟨o, e1, vs, e2, e3⟩ := ok.sto _ _ q
        subst e2
        have r' : v = .ref a := r
        subst r'
        exact .lst (SqL.of e1) (dps_of ok.vis e3 c0)
      | _ => rw [e, q] at c0; cases c0
  | _ => exact dp_of ok.vis r c0
def eqD (S : Sto) (x y : D) : Bool := PyData.eqv (toP (resD S x)) (toP (resD S y))
def shD (S : Sto) (x : D) : Bool := SeqAt.shaped (toP (resD S x))
def oEq : O2 := fun S x y Q => shD S x = true ∧ shD S y = true ∧ Q (.bl (eqD S x y)) S
def oNe : O2 := fun S x y Q => shD S x = true ∧ shD S y = true ∧ Q (.bl (!eqD S x y)) S
theorem opd_eq (hu : X.A.units + 64 < cLine) : OpR X (compareOp .Eq) (lOp X.K oEq) := OpR.imp (op_eqD hu) fun x y H Q ⟨W, S, a, b, Q0, ok, ra, rb, ho, cv⟩ =>
  ⟨_, _, dp_res ok ra ho.1, dp_res ok rb ho.2.1, ho.1, ho.2.1, cv _ S _ W H ho.2.2 Stp.refl ok rfl⟩
theorem opd_ne (hu : X.A.units + 64 < cLine) : OpR X (compareOp .NotEq) (lOp X.K oNe) := OpR.imp (op_neD hu) fun x y H Q ⟨W, S, a, b, Q0, ok, ra, rb, ho, cv⟩ =>
  ⟨_, _, dp_res ok ra ho.1, dp_res ok rb ho.2.1, ho.1, ho.2.1, cv _ S _ W H ho.2.2 Stp.refl ok rfl⟩
/-- x is None, x is not None -/
def isNon : D → Bool
  | .non => true
  | _ => false
def oIsN : O2 := fun S x y Q => match y with
  | .non => Q (.bl (isNon x)) S
  | _ => False
def oNotN : O2 := fun S x y Q => match y with
  | .non => Q (.bl (!isNon x)) S
  | _ => False
theorem isNon_rep {K : PySem.W.Frag} {W : Hp} {d : D} {v : V} (r : Rep K W d v) : decide (v = .non) = isNon d := by
  cases d with
  | non => rw [show v = V.non from r]; rfl
  | bl b => rw [show v = V.bl b from r]; rfl
  | int b => rw [show v = V.int b from r]; rfl
  | str b => rw [show v = V.str b from r]; rfl
  | ref b => rw [show v = V.ref b from r]; rfl
  | lst xs => obtain ⟨a, vs, e1, _⟩ := r; rw [e1]; rfl
  | fro xs => obtain ⟨a, vs, e1, _⟩ := r; rw [e1]; rfl
  | tup xs => obtain ⟨a, vs, e1, _⟩ := r; rw [e1]; rfl
  | obj C N xs => obtain ⟨a, dx, gs, vs, e1, _⟩ := r; rw [e1]; rfl
theorem opd_isN : OpR X (compareOp .Is) (lOp X.K oIsN) := OpR.imp op_isN fun x y H Q ⟨W, S, a, b, Q0, ok, ra, rb, ho, cv⟩ => by
  cases b with
  | non => exact ⟨rb, by rw [isNon_rep ra]; exact cv _ S _ W H ho Stp.refl ok rfl⟩
  | _ => exact ho.elim
theorem opd_notN : OpR X (compareOp .IsNot) (lOp X.K oNotN) := OpR.imp op_notN fun x y H Q ⟨W, S, a, b, Q0, ok, ra, rb, ho, cv⟩ => by
  cases b with
  | non => exact ⟨rb, by rw [isNon_rep ra]; exact cv _ S _ W H ho Stp.refl ok rfl⟩
  | _ => exact ho.elim

/-! ### items, slices -/
def oIx : O2 := fun S x y Q => match y with
  | .int i => some! (seqA S x) fun xs => some! (atI xs i) fun d => Q d S
  | _ => False
theorem reps_at {K : PySem.W.Frag} {W : Hp} {xs : List D} {vs : List V} {i : Int} {d : D} (r : Reps K W xs vs) (h : atI xs i = some d) : ∃ v, atI vs i = some v ∧ Rep K W d v := by
  unfold atI at h ⊢
  rw [r.length]
  cases q : ixN xs.length i with
  | none => rw [q] at h; cases h
  | some j =>
    rw [q] at h
    obtain ⟨v, e, rv⟩ := r.get (i := j) (d := d) h
    exact ⟨v, e, rv⟩
theorem IxR.imp {r r' : R2} (h : IxR X r) (i : ∀ x y H Q, r' x y H Q → r x y H Q) : IxR X r' := fun va sl pins s σ H x y v u Q I rx ry q hs => h va sl pins s σ H x y v u Q I rx ry (i _ _ _ _ q) hs
theorem ixd : IxR X (lOp X.K oIx) := IxR.imp (ix_list.or ix_tup) fun x y H Q ⟨W, S, a, b, Q0, ok, ra, rb, ho, cv⟩ => by
  cases b with
  | int i =>
    obtain ⟨xs, e1, ho⟩ := some!_ex ho
    obtain ⟨d, e2, ho⟩ := some!_ex ho
    obtain ⟨p, vs, rfl, hq, r1⟩ := seqA_rep ok ra e1
    obtain ⟨v, e3, rv⟩ := reps_at r1 e2
    rcases hq with hq | hq
    · exact .inl ⟨p, vs, i, v, rfl, rb, hq, e3, cv d S v W H ho Stp.refl ok rv⟩
    · exact .inr ⟨p, vs, i, v, rfl, rb, hq, e3, cv d S v W H ho Stp.refl ok rv⟩
  | _ => exact ho.elim
def cutD (xs : List D) (lo hi : Option Int) : List D := (xs.drop (HT.sIx xs.length 0 lo)).take (HT.sIx xs.length xs.length hi - HT.sIx xs.length 0 lo)
theorem reps_cut {K : PySem.W.Frag} {W : Hp} {xs : List D} {vs : List V} {lo hi : Option Int} (r : Reps K W xs vs) : Reps K W (cutD xs lo hi) (cutV vs lo hi) := by
  unfold cutD cutV
  rw [r.length]
  exact (r.drop _).take _
/-- a slice: of a list a new list, of a tuple a tuple -/
def oSl (S : Sto) (x : D) (lo hi : Option Int) (Q : Qd) : Prop := match x with
  | .tup xs => Q (.tup (cutD xs lo hi)) S
  | x => some! (seqL S x) fun xs => Q (.lst (cutD xs lo hi)) S
def lSl (K : PySem.W.Frag) : V → Option Int → Option Int → Hp → VK → Prop := fun x lo hi H Q => ∃ W S a Q0, Ok K W S H ∧ Rep K W a x ∧ oSl S a lo hi Q0 ∧ CV K W S H Q0 Q
theorem sld : SlR X (lSl X.K) := by
  intro pins s σ H x v vl vu lo hi sl Q I rx hs pl pu h
  obtain ⟨W, S, a, Q0, ok, ra, ho, cv⟩ := h
  have onL : some! (seqL S a) (fun xs => Q0 (.lst (cutD xs lo hi)) S) → ∃ T id, typeLookup (.type T) "__getitem__" = pure (some (.builtin id)) ∧ s.TypeIs v T ∧ wpAny (model X.prog X.w) X.A (getItem v (.ref sl)) (EP X pins σ Q) X.xe s := fun z => by
    obtain ⟨xs, e1, z⟩ := some!_ex z
    obtain ⟨p, vs, rfl, hp, r1⟩ := seqL_rep ok ra e1
    refine sl_list pins s σ H _ v vl vu lo hi sl Q I rx hs pl pu ⟨p, vs, rfl, hp, fun o no => ?_⟩
    have n := ok.fresh no
    exact cv _ S _ _ _ z (ok.stW no) (ok.newW no) ⟨o, _, rfl, upd_same, (reps_cut r1).mono (same_new n.1)⟩
  cases a with
  | tup xs =>
    obtain ⟨p, vs, rfl, hp, r1⟩ := id ra
    have hp' := sqT_mono ok.vis hp
    refine sl_tupA pins s σ H _ v vl vu lo hi sl Q I rx hs pl pu ⟨p, vs, rfl, hp', fun z => ?_, fun z o no => ?_⟩
    · refine cv _ S _ W H ho Stp.refl ok ⟨p, vs, rfl, hp, ?_⟩
      have e : cutD xs lo hi = xs := by
        unfold cutD
        rw [r1.length] at z
        rw [z.1, z.2, Nat.sub_zero, List.drop_zero, List.take_length]
      rw [e]; exact r1
    · have n := ok.fresh no
      exact cv _ S _ _ _ ho (ok.stW no) (ok.newW no) ⟨o, _, rfl, SqT.of upd_same, (reps_cut r1).mono (same_new n.1)⟩
  | _ => exact onL ho
end
end DL
set_option Elab.async false
set_option linter.all false
set_option maxRecDepth 100000
set_option maxHeartbeats 400000
/-! The data layer, part e: slices' parts, built-in functions. -/
namespace DL
open PySem PySem.Spec PyProof.Rows L2
section
variable {X : Cx}
/-- the parts of a slice -/
abbrev WPo := DE → Sto → (Option Int → Sto → Prop) → XQ → Prop
def lO (K : PySem.W.Frag) (Wx : WX) (w : WPo) : TO := fun σ H Q => ∃ W env S Q0 X0, Ok K W S H ∧ Sl K W env σ ∧ w env S Q0 X0 ∧ (∀ o S' W' H', Q0 o S' → Stp W S H W' S' H' → Ok K W' S' H' → Q o H') ∧ CXc K W S H X0 (fun c d H' => Wx c d σ H')
structure PDo (X : Cx) (e : Option Expr) (w : WPo) : Prop where
  run : ∀ Wx, Takes X Wx → PO X e (lO X.K Wx w)
def wNoP : WPo := fun _ S Q _ => Q none S
def wP (w : WPe) : WPo := fun env S Q X => w env S (fun d S1 => match d with | .int i => Q (some i) S1 | _ => False) X
theorem PO.imp {e : Option Expr} {t t' : TO} (h : PO X e t) (i : ∀ σ H Q, t' σ H Q → t σ H Q) : PO X e t' := ⟨fun pins s σ H Q I q => h.run pins s σ H Q I (i σ H Q q)⟩
theorem pdo_none : PDo X none wNoP := ⟨fun Wx tk => PO.imp po_none fun σ H Q ⟨W, env, S, Q0, X1, ok, sl, hw, cv, cx⟩ => cv none S W H hw Stp.refl ok⟩
variable {e : Expr} {w : WPe} {wl wu : WPo} {lo hi : Option Expr} {pos p2 : Pos}
theorem pdo_some (h : PD X e w) : PDo X (some e) (wP w) := ⟨fun Wx tk => PO.imp (po_some (h.run Wx tk)) fun σ H Q ⟨W, env, S, Q0, X1, ok, sl, hw, cv, cx⟩ => ⟨W, env, S, _, X1, ok, sl, hw, fun d S1 v W1 H1 h1 s1 ok1 r1 => by
  cases d with
  | int i => exact ⟨i, r1, cv (some i) S1 W1 H1 h1 s1 ok1⟩
  | _ => exact h1.elim, cx⟩⟩
def wSl (we : WPe) (wl wu : WPo) : WPe := fun env S Q X => we env S (fun x S1 => wl env S1 (fun lo S2 => wu env S2 (fun hi S3 => oSl S3 x lo hi Q) X) X) X
theorem pd_slice (he : PD X e w) (hl : PDo X lo wl) (hu : PDo X hi wu) : PD X (.Subscript e (.Slice lo hi none p2) pos) (wSl w wl wu) :=
  ⟨fun Wx tk => PE.imp (pe_slice sld (he.run Wx tk) (hl.run Wx tk) (hu.run Wx tk)) fun σ H Q ⟨W, env, S, Q0, X1, ok, sl, hw, cv, cx⟩ => ⟨W, env, S, _, X1, ok, sl, hw, fun d S1 v W1 H1 h1 s1 ok1 r1 =>
    ⟨W1, env, S1, _, X1, ok1, sl.mono s1.vis, h1, fun o S2 W2 H2 h2 s2 ok2 => ⟨W2, env, S2, _, X1, ok2, sl.mono (s1.trans s2).vis, h2, fun o2 S3 W3 H3 h3 s3 ok3 =>
      ⟨W3, S3, d, Q0, ok3, r1.mono (s2.trans s3).vis, h3, cv.mono (s1.trans (s2.trans s3))⟩, cx.mono (s1.trans s2)⟩, cx.mono s1⟩, cx⟩⟩

/-! ### built-in functions -/
def wCB (o : OC) (wa : WPa) : WPe := fun env S Q X => wa env S (fun ds S1 => o S1 ds Q) X
variable {x : Str} {p : Pos} {es : List Expr} {wa : WPa} {fid T : String} {o : OC}
theorem cb_go {K : PySem.W.Frag} {Wx : WX} {σ : L2.St} {H : Hp} {Q : VK} (h : lE K Wx (wCB o wa) σ H Q) : tCB (lC K o) (lA K Wx wa) σ H Q := by
  obtain ⟨W, env, S, Q0, X1, ok, sl, hw, cv, cx⟩ := h
  exact ⟨W, env, S, _, X1, ok, sl, hw, fun ds S1 vs W1 H1 h1 s1 ok1 r1 => ⟨W1, S1, ds, Q0, ok1, r1, h1, cv.mono s1⟩, cx⟩
theorem pd_callB (hc : CallR X (.builtin fid) (lC X.K o)) (hm : X.mg x = none) (hv : bootBuiltins x = some (.builtin fid)) (ha : PDa X (e :: es) wa) (hg : Gl X x := by rfl) (hn : x ≠ "__name__" := by decide) (hdb : (x == ("__debug__" : Str)) = false := by decide)
    (he : starEach (e :: es) X.env = (false, eval e X.env) :: starEach es X.env := by rfl) (hpl : (backTo pos (starEach es X.env)).any (·.1) = false := by rfl) : PD X (.Call (.Name x p) (e :: es) [] pos) (wCB o wa) :=
  ⟨fun Wx tk => PE.imp (pe_callB hc hg hm hv (ha.run Wx tk) hn hdb he hpl) fun _ _ _ h => cb_go h⟩
theorem pd_callTy (hc : CallR X (.type T) (lC X.K o)) (hm : X.mg x = none) (hv : bootBuiltins x = some (.type T)) (ha : PDa X (e :: es) wa) (hg : Gl X x := by rfl) (hn : x ≠ "__name__" := by decide) (hdb : (x == ("__debug__" : Str)) = false := by decide)
    (he : starEach (e :: es) X.env = (false, eval e X.env) :: starEach es X.env := by rfl) (hpl : (backTo pos (starEach es X.env)).any (·.1) = false := by rfl) : PD X (.Call (.Name x p) (e :: es) [] pos) (wCB o wa) :=
  ⟨fun Wx tk => PE.imp (pe_callTy hc hg hm hv (ha.run Wx tk) hn hdb he hpl) fun _ _ _ h => cb_go h⟩
theorem CallR.imp {f : Value} {r r' : List V → Hp → VK → Prop} (h : CallR X f r) (i : ∀ xs H Q, r' xs H Q → r xs H Q) : CallR X f r' := fun pins s σ H xs us Q I rv q => h pins s σ H xs us Q I rv (i _ _ _ q)
theorem reps1 {K : PySem.W.Frag} {W : Hp} {d : D} {vs : List V} (r : Reps K W [d] vs) : ∃ v, vs = [v] ∧ Rep K W d v := by
  obtain ⟨v, q, e1, e2, e3⟩ := r
  have e3' : q = [] := e3
  subst e1 e3'
  exact ⟨v, rfl, e2⟩
theorem reps2 {K : PySem.W.Frag} {W : Hp} {d e : D} {vs : List V} (r : Reps K W [d, e] vs) : ∃ v u, vs = [v, u] ∧ Rep K W d v ∧ Rep K W e u := by
  obtain ⟨v, q, e1, e2, e3⟩ := r
  obtain ⟨u, rfl, e4⟩ := reps1 e3
  exact ⟨v, u, e1, e2, e4⟩
def one (ds : List D) (k : D → Prop) : Prop := match ds with
  | [d] => k d
  | _ => False
def two (ds : List D) (k : D → D → Prop) : Prop := match ds with
  | [d, e] => k d e
  | _ => False
def asI (d : D) (k : Int → Prop) : Prop := match d with
  | .int i => k i
  | _ => False
theorem one_ex {ds : List D} {k : D → Prop} (h : one ds k) : ∃ d, ds = [d] ∧ k d := by
  cases ds with
  | nil => exact h.elim
  | cons d r =>
    cases r with
    | nil => exact ⟨d, rfl, h⟩
    | cons e r => exact h.elim
theorem two_ex {ds : List D} {k : D → D → Prop} (h : two ds k) : ∃ d e, ds = [d, e] ∧ k d e := by
  cases ds with
  | nil => exact h.elim
  | cons d r =>
    cases r with
    | nil => exact h.elim
    | cons e r =>
      cases r with
      | nil => exact ⟨d, e, rfl, h⟩
      | cons f r => exact h.elim
theorem asI_ex {d : D} {k : Int → Prop} (h : asI d k) : ∃ i, d = .int i ∧ k i := by
  cases d with
  | int i => exact ⟨i, rfl, h⟩
  | _ => exact h.elim
/-- len of a list, a tuple, a text -/
def oLen : OC := fun S ds Q => one ds fun d => match d with
  | .str x => x.length ≤ sizeLine ∧ Q (.int (x.length : Nat)) S
  | d => some! (seqA S d) fun xs => Q (.int (xs.length : Nat)) S
theorem cd_len : CallR X (.builtin "len") (lC X.K oLen) := CallR.imp (call_len_seq.or call_len_str) fun vs H Q ⟨W, S, ds, Q0, ok, r, ho, cv⟩ => by
  obtain ⟨d, rfl, ho⟩ := one_ex ho
  obtain ⟨v, rfl, rv⟩ := reps1 r
  have key : some! (seqA S d) (fun xs => Q0 (.int (xs.length : Nat)) S) → (∃ p ys, [v] = [.ref p] ∧ (SqL X.K H p ys ∨ SqT X.K H p ys) ∧ Q (.int ys.length) H) := fun z => by
    obtain ⟨xs, e1, z⟩ := some!_ex z
    obtain ⟨q, ws, rfl, hq, r1⟩ := seqA_rep ok rv e1
    refine ⟨q, ws, rfl, hq, ?_⟩
    rw [r1.length]
    exact cv _ S _ W H z Stp.refl ok rfl
  cases d with
  | str x => exact .inr ⟨x, by rw [show v = .str x from rv], ho.1, cv _ S _ W H ho.2 Stp.refl ok rfl⟩
  | _ => exact .inl (key ho)
/-- int(n) -/
def oInt : OC := fun S ds Q => one ds fun d => match d with
  | .int i => Q (.int i) S
  | .bl k => Q (.int (if k = true then 1 else 0)) S
  | _ => False
theorem cd_int : CallR X (.type "int") (lC X.K oInt) := CallR.imp call_int1 fun vs H Q ⟨W, S, ds, Q0, ok, r, ho, cv⟩ => by
  obtain ⟨d, rfl, ho⟩ := one_ex ho
  obtain ⟨v, rfl, rv⟩ := reps1 r
  cases d with
  | int i => exact .inl ⟨i, by rw [show v = .int i from rv], cv _ S _ W H ho Stp.refl ok rfl⟩
  | bl k =>
    refine .inr ⟨k, by rw [show v = .bl k from rv], cv _ S _ W H ho Stp.refl ok ?_⟩
    cases k <;> rfl
  | _ => exact ho.elim
/-- max, min of two ints -/
def oMax2 : OC := fun S ds Q => two ds fun a b => asI a fun i => asI b fun j => Q (.int (max i j)) S
def oMin2 : OC := fun S ds Q => two ds fun a b => asI a fun i => asI b fun j => Q (.int (min i j)) S
theorem cd_max2 (hc : X.calm = true) : CallR X (.builtin "max") (lC X.K oMax2) := CallR.imp (call_max2 hc) fun vs H Q ⟨W, S, ds, Q0, ok, r, ho, cv⟩ => by
  obtain ⟨a, b, rfl, ho⟩ := two_ex ho
  obtain ⟨i, rfl, ho⟩ := asI_ex ho
  obtain ⟨j, rfl, ho⟩ := asI_ex ho
  obtain ⟨v, u, rfl, rv, ru⟩ := reps2 r
  have e : (if j > i then j else i) = max i j := by
    by_cases h : j > i
    · rw [if_pos h]; omega
    · rw [if_neg h]; omega
  exact ⟨i, j, by rw [show v = .int i from rv, show u = .int j from ru], by rw [e]; exact cv _ S _ W H ho Stp.refl ok rfl⟩
theorem cd_min2 (hc : X.calm = true) : CallR X (.builtin "min") (lC X.K oMin2) := CallR.imp (call_min2 hc) fun vs H Q ⟨W, S, ds, Q0, ok, r, ho, cv⟩ => by
  obtain ⟨a, b, rfl, ho⟩ := two_ex ho
  obtain ⟨i, rfl, ho⟩ := asI_ex ho
  obtain ⟨j, rfl, ho⟩ := asI_ex ho
  obtain ⟨v, u, rfl, rv, ru⟩ := reps2 r
  have e : (if j < i then j else i) = min i j := by
    by_cases h : j < i
    · rw [if_pos h]; omega
    · rw [if_neg h]; omega
  exact ⟨i, j, by rw [show v = .int i from rv, show u = .int j from ru], by rw [e]; exact cv _ S _ W H ho Stp.refl ok rfl⟩
/-- list(xs), tuple(xs) -/
def oList : OC := fun S ds Q => one ds fun d => some! (seqA S d) fun xs => Q (.lst xs) S
def oListM : OC := fun S ds Q => one ds fun d => some! (seqA S d) fun xs => ∀ p, S p = none → Q (.ref p) (put S p (.lst xs))
def oTuple : OC := fun S ds Q => one ds fun d => some! (seqA S d) fun xs => Q (.tup xs) S
theorem cd_list : CallR X (.type "list") (lC X.K oList) := CallR.imp call_list_of fun vs H Q ⟨W, S, ds, Q0, ok, r, ho, cv⟩ => by
  obtain ⟨d, rfl, ho⟩ := one_ex ho
  obtain ⟨v, rfl, rv⟩ := reps1 r
  obtain ⟨xs, e1, z⟩ := some!_ex ho
  obtain ⟨q, ws, rfl, hq, r1⟩ := seqA_rep ok rv e1
  refine ⟨q, ws, rfl, hq, fun l hl => ?_⟩
  have n := ok.fresh hl
  exact cv _ S _ _ _ z (ok.stW hl) (ok.newW hl) ⟨l, ws, rfl, upd_same, r1.mono (same_new n.1)⟩
theorem cd_listM : CallR X (.type "list") (lC X.K oListM) := CallR.imp call_list_of fun vs H Q ⟨W, S, ds, Q0, ok, r, ho, cv⟩ => by
  obtain ⟨d, rfl, ho⟩ := one_ex ho
  obtain ⟨v, rfl, rv⟩ := reps1 r
  obtain ⟨xs, e1, z⟩ := some!_ex ho
  obtain ⟨q, ws, rfl, hq, r1⟩ := seqA_rep ok rv e1
  refine ⟨q, ws, rfl, hq, fun l hl => ?_⟩
  exact cv _ _ _ _ _ (z l (ok.fresh hl).2) (ok.stS hl) (ok.newS hl ⟨ws, rfl, r1⟩) rfl
theorem cd_tuple : CallR X (.type "tuple") (lC X.K oTuple) := CallR.imp call_tuple_of fun vs H Q ⟨W, S, ds, Q0, ok, r, ho, cv⟩ => by
  obtain ⟨d, rfl, ho⟩ := one_ex ho
  obtain ⟨v, rfl, rv⟩ := reps1 r
  obtain ⟨xs, e1, z⟩ := some!_ex ho
  have onL : seqL S d = some xs → ∃ p ys, [v] = [.ref p] ∧ ((SqL X.K H p ys ∧ ∀ l, H l = none → Q (.ref l) (upd H l (.tup ys))) ∨ (SqT X.K H p ys ∧ Q (.ref p) H)) := fun e2 => by
    obtain ⟨q, ws, rfl, hq, r1⟩ := seqL_rep ok rv e2
    refine ⟨q, ws, rfl, .inl ⟨hq, fun l hl => ?_⟩⟩
    have n := ok.fresh hl
    exact cv _ S _ _ _ z (ok.stW hl) (ok.newW hl) ⟨l, ws, rfl, SqT.of upd_same, r1.mono (same_new n.1)⟩
  cases d with
  | tup ys =>
    cases e1
    obtain ⟨q, ws, rfl, hq, r1⟩ := id rv
    exact ⟨q, ws, rfl, .inr ⟨sqT_mono ok.vis hq, cv _ S _ W H z Stp.refl ok rv⟩⟩
  | _ => exact onL e1
/-- all, any of a list of bools; sum, max, min, sorted of a list of ints -/
def oAll : OC := fun S ds Q => one ds fun d => some! (seqL S d) fun xs => some! (toBls xs) fun bs => Q (.bl (bs.all id)) S
def oAny : OC := fun S ds Q => one ds fun d => some! (seqL S d) fun xs => some! (toBls xs) fun bs => Q (.bl (bs.any id)) S
def oSum : OC := fun S ds Q => one ds fun d => some! (seqL S d) fun xs => some! (toInts xs) fun bs => Q (.int bs.sum) S
def oMaxL : OC := fun S ds Q => one ds fun d => some! (seqL S d) fun xs => some! (toInts xs) fun bs => 0 < bs.length ∧ ∀ m, m ∈ bs → (∀ y, y ∈ bs → y ≤ m) → Q (.int m) S
def oMinL : OC := fun S ds Q => one ds fun d => some! (seqL S d) fun xs => some! (toInts xs) fun bs => 0 < bs.length ∧ ∀ m, m ∈ bs → (∀ y, y ∈ bs → m ≤ y) → Q (.int m) S
def oSorted : OC := fun S ds Q => one ds fun d => some! (seqL S d) fun xs => some! (toInts xs) fun bs => ∀ ms : List Int, ms.Perm bs → ms.Pairwise (· ≤ ·) → Q (.lst (ms.map D.int)) S
theorem reps_ints {K : PySem.W.Frag} {W : Hp} : ∀ {ns : List Int}, Reps K W (ns.map D.int) (ns.map V.int)
  | [] => rfl
  | i :: r => ⟨_, _, rfl, rfl, reps_ints⟩
theorem listI {K : PySem.W.Frag} {W : Hp} {S : Sto} {H : Hp} {d : D} {v : V} {k : List Int → Prop} (ok : Ok K W S H) (r : Rep K W d v) (h : some! (seqL S d) fun xs => some! (toInts xs) k) : ∃ a ns, v = .ref a ∧ SqL K H a (ns.map V.int) ∧ k ns := by
  obtain ⟨xs, e1, h⟩ := some!_ex h
  obtain ⟨ns, e2, h⟩ := some!_ex h
  obtain ⟨q, ws, rfl, hq, r1⟩ := seqL_rep ok r e1
  rw [toInts_rep e2 r1] at hq
  exact ⟨q, ns, rfl, hq, h⟩
theorem listB {K : PySem.W.Frag} {W : Hp} {S : Sto} {H : Hp} {d : D} {v : V} {k : List Bool → Prop} (ok : Ok K W S H) (r : Rep K W d v) (h : some! (seqL S d) fun xs => some! (toBls xs) k) : ∃ a ns, v = .ref a ∧ SqL K H a (ns.map V.bl) ∧ k ns := by
  obtain ⟨xs, e1, h⟩ := some!_ex h
  obtain ⟨ns, e2, h⟩ := some!_ex h
  obtain ⟨q, ws, rfl, hq, r1⟩ := seqL_rep ok r e1
  rw [toBls_rep e2 r1] at hq
  exact ⟨q, ns, rfl, hq, h⟩
theorem cd_all (hc : X.calm = true) : CallR X (.builtin "all") (lC X.K oAll) := CallR.imp (cr_all hc) fun vs H Q ⟨W, S, ds, Q0, ok, r, ho, cv⟩ => by
  obtain ⟨d, rfl, ho⟩ := one_ex ho
  obtain ⟨v, rfl, rv⟩ := reps1 r
  obtain ⟨a, bs, rfl, h1, h2⟩ := listB ok rv ho
  exact ⟨a, bs, rfl, h1, cv _ S _ W H h2 Stp.refl ok rfl⟩
theorem cd_any (hc : X.calm = true) : CallR X (.builtin "any") (lC X.K oAny) := CallR.imp (cr_any hc) fun vs H Q ⟨W, S, ds, Q0, ok, r, ho, cv⟩ => by
  obtain ⟨d, rfl, ho⟩ := one_ex ho
  obtain ⟨v, rfl, rv⟩ := reps1 r
  obtain ⟨a, bs, rfl, h1, h2⟩ := listB ok rv ho
  exact ⟨a, bs, rfl, h1, cv _ S _ W H h2 Stp.refl ok rfl⟩
theorem cd_sum (hc : X.calm = true) : CallR X (.builtin "sum") (lC X.K oSum) := CallR.imp (cr_sum hc) fun vs H Q ⟨W, S, ds, Q0, ok, r, ho, cv⟩ => by
  obtain ⟨d, rfl, ho⟩ := one_ex ho
  obtain ⟨v, rfl, rv⟩ := reps1 r
  obtain ⟨a, bs, rfl, h1, h2⟩ := listI ok rv ho
  exact ⟨a, bs, rfl, h1, cv _ S _ W H h2 Stp.refl ok rfl⟩
theorem cd_maxL (hc : X.calm = true) : CallR X (.builtin "max") (lC X.K oMaxL) := CallR.imp (cr_max hc) fun vs H Q ⟨W, S, ds, Q0, ok, r, ho, cv⟩ => by
  obtain ⟨d, rfl, ho⟩ := one_ex ho
  obtain ⟨v, rfl, rv⟩ := reps1 r
  obtain ⟨a, bs, rfl, h1, h2, h3⟩ := listI ok rv ho
  exact ⟨a, bs, rfl, h1, h2, fun m q1 q2 => cv _ S _ W H (h3 m q1 q2) Stp.refl ok rfl⟩
theorem cd_minL (hc : X.calm = true) : CallR X (.builtin "min") (lC X.K oMinL) := CallR.imp (cr_min hc) fun vs H Q ⟨W, S, ds, Q0, ok, r, ho, cv⟩ => by
  obtain ⟨d, rfl, ho⟩ := one_ex ho
  obtain ⟨v, rfl, rv⟩ := reps1 r
  obtain ⟨a, bs, rfl, h1, h2, h3⟩ := listI ok rv ho
  exact ⟨a, bs, rfl, h1, h2, fun m q1 q2 => cv _ S _ W H (h3 m q1 q2) Stp.refl ok rfl⟩
theorem cd_sorted : CallR X (.builtin "sorted") (lC X.K oSorted) := CallR.imp cr_sortedI fun vs H Q ⟨W, S, ds, Q0, ok, r, ho, cv⟩ => by
  obtain ⟨d, rfl, ho⟩ := one_ex ho
  obtain ⟨v, rfl, rv⟩ := reps1 r
  obtain ⟨a, bs, rfl, h1, h2⟩ := listI ok rv ho
  refine ⟨a, bs, rfl, h1, fun ms p q1 q2 hp => ?_⟩
  have n := ok.fresh hp
  exact cv _ S _ _ _ (h2 ms q1 q2) (ok.stW hp) (ok.newW hp) ⟨p, _, rfl, upd_same, reps_ints⟩

/-! ### isinstance of a built-in class -/
/-- the name of a value's type -/
def tyN (S : Sto) (d : D) : Option String := match d with
  | .non => some "NoneType"
  | .bl _ => some "bool"
  | .int _ => some "int"
  | .str _ => some "str"
  | .tup _ => some "tuple"
  | d => (seqL S d).map fun _ => "list"
theorem tyN_rep {K : PySem.W.Frag} {W : Hp} {S : Sto} {H : Hp} {d : D} {v : V} {n : String} (ok : Ok K W S H) (r : Rep K W d v) (h : tyN S d = some n) : TyX K H v (.type n) := by
  have onL : (seqL S d).map (fun _ => "list") = some n → TyX K H v (.type n) := fun z => by
    cases q : seqL S d with
    | none => rw [q] at z; cases z
    | some xs =>
      rw [q] at z
      cases z
      obtain ⟨a, vs, rfl, hq, _⟩ := seqL_rep ok r q
      rcases hq with (hq | ⟨o, hq⟩) | ⟨o, its, m, hk, hc, _⟩
      · exact .base (.lst hq)
      · exact .base (.frz hq)
      · exact .kList hk hc
  cases d with
  | non => cases h; rw [show v = V.non from r]; exact .base .non
  | bl b => cases h; rw [show v = V.bl b from r]; exact .base (.bl b)
  | int b => cases h; rw [show v = V.int b from r]; exact .base (.int b)
  | str b => cases h; rw [show v = V.str b from r]; exact .base (.str b)
  | tup xs =>
    cases h
    obtain ⟨a, vs, rfl, hq, _⟩ := r
    have hq' := sqT_mono ok.vis hq
    rcases hq' with (hq | ⟨o, hq⟩) | ⟨o, its, m, hk, hc, _⟩
    · exact .base (.tup hq)
    · exact .fTuple hq
    · exact .kTuple hk hc
  | _ => exact onL h
/-- isinstance(e, T) -/
def wIsi (T : String) (w : WPe) : WPe := fun env S Q X => w env S (fun d S1 => some! (tyN S1 d) fun n => some! (kitB n T) fun b => Q (.bl b) S1) X
theorem pd_isi {e2 : Expr} (he : PD X e w) (hc : PE X e2 (tC (.ty T))) (hm : X.mg "isinstance" = none) (hg : Gl X "isinstance" := by rfl)
    (hs : starEach [e, e2] X.env = (false, eval e X.env) :: starEach [e2] X.env := by rfl) (hs2 : starEach [e2] X.env = [(false, eval e2 X.env)] := by rfl) (hpl : (backTo pos (starEach [e2] X.env)).any (·.1) = false := by rfl) :
    PD X (.Call (.Name "isinstance" p) [e, e2] [] pos) (wIsi T w) :=
  ⟨fun Wx tk => PE.imp (pe_callB call_isi hg hm (by decide +kernel) (pa_cons (he.run Wx tk) (pa_cons hc pa_nil hs2) hs) (by decide) (by decide) hs hpl) fun σ H Q ⟨W, env, S, Q0, X1, ok, sl, hw, cv, cx⟩ => ⟨W, env, S, _, X1, ok, sl, hw, fun d S1 v W1 H1 h1 s1 ok1 r1 => by
    obtain ⟨n, e1, h1⟩ := some!_ex h1
    obtain ⟨b, e2, h1⟩ := some!_ex h1
    exact ⟨v, .ty T, _, _, b, rfl, .ty T, tyN_rep ok1 r1 e1, kit_ty e2, cv _ S1 _ W1 H1 h1 s1 ok1 rfl⟩, cx⟩⟩
end
end DL
set_option Elab.async false
set_option linter.all false
set_option maxRecDepth 100000
set_option maxHeartbeats 1000000
/-! The data layer, part f: fields, methods of lists, statements, defs. -/
namespace DL
open PySem PySem.Spec PyProof.Rows L2

/-! ### chains -/
section
variable {X : Cx} {a b c : Expr} {pos : Pos} {wa wb wc : WPe} {o o' : O2} {op op' : CmpOp}
theorem chain_go {K : PySem.W.Frag} {Wx : WX} {σ : L2.St} {H : Hp} {Q : VK} (h : lE K Wx (wChain o o' wa wb wc) σ H Q) : tChain (lOp K o) (lOp K o') (lE K Wx wa) (lE K Wx wb) (lE K Wx wc) σ H Q := by
  obtain ⟨W, env, S, Q0, X1, ok, sl, hw, cv, cx⟩ := h
  refine ⟨W, env, S, _, X1, ok, sl, hw, fun x S1 v W1 H1 h1 s1 ok1 r1 => ?_, cx⟩
  refine ⟨W1, env, S1, _, X1, ok1, sl.mono s1.vis, h1, fun y S2 u W2 H2 h2 s2 ok2 r2 => ?_, cx.mono s1⟩
  refine ⟨W2, S2, x, y, _, ok2, r1.mono s2.vis, r2, h2, fun k S3 t W3 H3 h3 s3 ok3 r3 => ?_⟩
  cases k with
  | bl k =>
    refine ⟨k, r3, ?_⟩
    cases k with
    | true =>
      refine iteT ⟨W3, env, S3, _, X1, ok3, sl.mono (s1.trans (s2.trans s3)).vis, (if_pos rfl).mp h3, fun z S4 v4 W4 H4 h4 s4 ok4 r4 => ?_, cx.mono (s1.trans (s2.trans s3))⟩
      exact ⟨W4, S4, y, z, Q0, ok4, r2.mono (s3.trans s4).vis, r4, h4, cv.mono (s1.trans (s2.trans (s3.trans s4)))⟩
    | false => exact iteF (cv _ S3 _ W3 H3 ((if_neg Bool.false_ne_true).mp h3) (s1.trans (s2.trans s3)) ok3 rfl)
  | _ => exact h3.elim
theorem pd_chain (ho : OpR X (compareOp op) (lOp X.K o)) (ho' : OpR X (compareOp op') (lOp X.K o')) (ha : PD X a wa) (hb : PD X b wb) (hc : PD X c wc) (hm : lastMarks [op, op'] [b, c] = false := by with_unfolding_all rfl) :
    PD X (.Compare a [op, op'] [b, c] pos) (wChain o o' wa wb wc) := ⟨fun Wx tk => PE.imp (pe_chain ho ho' (ha.run Wx tk) (hb.run Wx tk) (hc.run Wx tk) hm) fun _ _ _ h => chain_go h⟩
theorem pdt_chain (ho : OpR X (compareOp op) (lOp X.K o)) (ho' : OpR X (compareOp op') (lOp X.K o')) (ha : PD X a wa) (hb : PD X b wb) (hc : PD X c wc) (hm : lastMarks [op, op'] [b, c] = false := by with_unfolding_all rfl) :
    PDt X (.Compare a [op, op'] [b, c] pos) (wTest (wChain o o' wa wb wc)) := ⟨fun Wx tk => PT.imp (pt_chain ho ho' (ha.run Wx tk) (hb.run Wx tk) (hc.run Wx tk) hm) fun σ H Q ⟨W, env, S, Q0, X1, ok, sl, hw, cv, cx⟩ => chain_go ⟨W, env, S, _, X1, ok, sl, hw, fun d S1 v W1 H1 h1 s1 ok1 r1 => by
    cases d with
    | bl k =>
      have e : v = .bl k := r1
      exact ⟨k, e, cv k S1 W1 H1 h1 s1 ok1⟩
    | _ => exact h1.elim, cx⟩⟩
end

/-! ### fields -/
/-- field i of an instance of C with the fields N -/
def fldD (C : Addr) (N : List Str) (i : Nat) (S : Sto) (d : D) (k : D → Prop) : Prop := match d with
  | .ref a => match S a with
    | some (.ins C' N' xs) => (C' = C ∧ N' = N) ∧ some! (getV xs i) k
    | _ => False
  | .obj C' N' xs => (C' = C ∧ N' = N) ∧ some! xs[i]? k
  | _ => False
theorem fldD_rep {K : PySem.W.Frag} {W : Hp} {S : Sto} {H : Hp} {C : Addr} {N : List Str} {i : Nat} {f : Str} {d : D} {v : V} {k : D → Prop} (ok : Ok K W S H) (r : Rep K W d v) (hi : N[i]? = some f) (h : fldD C N i S d k) :
    ∃ a dx gs x u, v = .ref a ∧ H a = some (.ins C dx gs) ∧ gs.lookup f = some u ∧ Rep K W x u ∧ k x := by
  cases d with
  | ref a =>
    have h' : (match S a with | some (.ins C' N' xs) => (C' = C ∧ N' = N) ∧ some! (getV xs i) k | _ => False) := h
    cases q : S a with
    | none => rw [q] at h'; exact h'.elim
    | some mo =>
      rw [q] at h'
      cases mo with
      | ins C' N' xs =>
        obtain ⟨⟨rfl, rfl⟩, h'⟩ := h'
        obtain ⟨x, e, h'⟩ := some!_ex h'
        obtain ⟨o, e3, dx, gs, rfl, fr⟩ := ok.sto _ _ q
        obtain ⟨u, e5, ru⟩ := fr.is i f x hi e
        exact ⟨a, dx, gs, x, u, r, e3, e5, ru, h'⟩
      | _ => exact h'.elim
  | obj C' N' xs =>
    obtain ⟨⟨rfl, rfl⟩, h'⟩ := h
    obtain ⟨x, e, h'⟩ := some!_ex h'
    obtain ⟨a, dx, gs, vs, rfl, e2, e3, _, rr⟩ := r
    obtain ⟨u, e5, ru⟩ := rr.get e
    exact ⟨a, dx, gs, x, u, rfl, ok.vis _ _ e2, (e3 i f hi).trans e5, ru, h'⟩
  | _ => exact h.elim
def wFld (C : Addr) (N : List Str) (i : Nat) (w : WPe) : WPe := fun env S Q X => w env S (fun o S1 => fldD C N i S1 o fun d => Q d S1) X
/-- o.f = e -/
def setD (C : Addr) (N : List Str) (i : Nat) (S : Sto) (o : D) (d : D) (k : Sto → Prop) : Prop := match o with
  | .ref a => match S a with
    | some (.ins C' N' xs) => (C' = C ∧ N' = N) ∧ k (put S a (.ins C N (setV xs i d)))
    | _ => False
  | _ => False
theorem setD_rep {K : PySem.W.Frag} {W : Hp} {S : Sto} {H : Hp} {C : Addr} {N : List Str} {i : Nat} {f : Str} {o d : D} {v u : V} {k : Sto → Prop} (ok : Ok K W S H) (r : Rep K W o v) (rd : Rep K W d u) (hi : N[i]? = some f) (h : setD C N i S o d k) :
    ∃ a dx gs S', v = .ref a ∧ H a = some (.ins C dx gs) ∧ gs.length < 1000 ∧ Stp W S H W S' (upd H a (.ins C dx (putF f u gs))) ∧ Ok K W S' (upd H a (.ins C dx (putF f u gs))) ∧ k S' := by
  cases o with
  | ref a =>
    have h' : (match S a with | some (.ins C' N' xs) => (C' = C ∧ N' = N) ∧ k (put S a (.ins C N (setV xs i d))) | _ => False) := h
    cases q : S a with
    | none => rw [q] at h'; exact h'.elim
    | some mo =>
      rw [q] at h'
      cases mo with
      | ins C' N' xs =>
        obtain ⟨⟨rfl, rfl⟩, h'⟩ := h'
        obtain ⟨o, e3, dx, gs, rfl, fr⟩ := ok.sto _ _ q
        exact ⟨a, dx, gs, _, r, e3, fr.lt, ok.stC (m := .ins C' N' (setV xs i d)) q, ok.chg (m := .ins C' N' (setV xs i d)) q ⟨dx, _, rfl, fr.put hi rd⟩, h'⟩
      | _ => exact h'.elim
  | _ => exact h.elim

/-! ### statements -/
def wSeq (w u : WPs) : WPs := fun env S q => w env S { q with nx := fun e s => u e s q }
def wNext : WPs := fun env S q => q.nx env S
def xcQ (q : QS) (env : DE) : XQ := fun C fs S => q.xc C fs env S
def wSet (i : Nat) (w : WPe) : WPs := fun env S q => w env S (fun d S1 => q.nx (setV env i d) S1) (xcQ q env)
def wDrop (w : WPe) : WPs := fun env S q => w env S (fun _ S1 => q.nx env S1) (xcQ q env)
def wRet (w : WPe) : WPs := fun env S q => w env S q.rt (xcQ q env)
def wRetN : WPs := fun _ S q => q.rt .non S
def wIf (t : WPt) (u v : WPs) : WPs := fun env S q => t env S (fun k S1 => if k = true then u env S1 q else v env S1 q) (xcQ q env)
def wBreak : WPs := fun env S q => q.bk env S
def wCont : WPs := fun env S q => q.ct env S
def wAug (i : Nat) (o : O2) (w : WPe) : WPs := fun env S q => some! (getV env i) fun x => w env S (fun y S1 => o S1 x y fun z S2 => q.nx (setV env i z) S2) (xcQ q env)
def wSetF (C : Addr) (N : List Str) (i : Nat) (wo we : WPe) : WPs := fun env S q => we env S (fun d S1 => wo env S1 (fun o S2 => setD C N i S2 o d fun S3 => q.nx env S3) (xcQ q env)) (xcQ q env)
def wAugF (C : Addr) (N : List Str) (i : Nat) (op : O2) (wo we : WPe) : WPs := fun env S q => wo env S (fun o S1 => fldD C N i S1 o fun x => we env S1 (fun y S2 => op S2 x y fun z S3 => setD C N i S3 o z fun S4 => q.nx env S4) (xcQ q env)) (xcQ q env)
/-- o[i] = e for a list -/
def setIx (S : Sto) (o i d : D) (k : Sto → Prop) : Prop := match o, i with
  | .ref a, .int j => match S a with
    | some (.lst xs) => some! (ixN xs.length j) fun n => k (put S a (.lst (xs.set n d)))
    | _ => False
  | _, _ => False
def wSetI (wo wi we : WPe) : WPs := fun env S q => we env S (fun d S1 => wo env S1 (fun o S2 => wi env S2 (fun i S3 => setIx S3 o i d fun S4 => q.nx env S4) (xcQ q env)) (xcQ q env)) (xcQ q env)
section
variable {X : Cx} {e o i' : Expr} {st : Stmt} {rest : List Stmt} {pos pos' tpos : Pos} {w we wo wi : WPe} {ws u v : WPs} {t : WPt} {i : Nat} {x f : Str} {C : Addr} {N : List Str}
theorem CXc.of {K : PySem.W.Frag} {W : Hp} {S : Sto} {H : Hp} {Wx : WX} {q : QS} {D : Ends} {env : DE} {σ : L2.St} (h : CS K Wx W S H q D) (sl : Sl K W env σ) : CXc K W S H (xcQ q env) (fun c d H' => Wx c d σ H') :=
  fun C fs S' dd gs W' H' q1 s1 ok1 e1 r1 => h.xc C fs env S' dd gs σ W' H' q1 s1 ok1 (sl.mono s1.vis) e1 r1
theorem pss_nilD : PDss X [] wNext := ⟨fun Wx tk => PSs.imp pss_nil fun D σ H ⟨W, env, S, q, ok, sl, hl, hw, cs⟩ => cs.nx env S σ W H hw Stp.refl ok sl hl⟩
theorem pss_consD (h1 : PDs X st ws) (h2 : PDss X rest u) : PDss X (st :: rest) (wSeq ws u) :=
  ⟨fun Wx tk => PSs.imp (pss_cons (h1.run Wx tk) (h2.run Wx tk)) fun D σ H ⟨W, env, S, q, ok, sl, hl, hw, cs⟩ =>
    ⟨W, env, S, _, ok, sl, hl, hw, fun e S1 σ1 W1 H1 h1 s1 ok1 sl1 hl1 => ⟨W1, e, S1, q, ok1, sl1, hl1, h1, cs.mono s1⟩, cs.rt, cs.bk, cs.ct, cs.xc⟩⟩
theorem pss_oneD (h1 : PDs X st ws) : PDss X [st] ws := ⟨fun Wx tk => pss_one (h1.run Wx tk)⟩
theorem pds_set (hN : X.N.Nodup) (hi : X.N[i]? = some x) (hx : Loc X.env.scope x) (he : PD X e w) (hs : swapsWith e (some (.Name x pos')) pos.line X.env = pure false := by rfl) (hf : X.fn x = true ∨ X.env.scope.names.lookup x = some .local := by first | exact .inl rfl | exact .inr rfl | assumption) :
    PDs X (.Assign [.Name x pos'] e pos) (wSet i w) :=
  ⟨fun Wx tk => PS.imp (ps_set hN hi hx (he.run Wx tk) hs hf) fun D σ H ⟨W, env, S, q, ok, sl, hl, hw, cs⟩ => ⟨W, env, S, _, _, ok, sl, hw, fun d S1 v W1 H1 h1 s1 ok1 r1 =>
    cs.nx _ S1 _ W1 H1 h1 s1 ok1 ((sl.mono s1.vis).set (by rw [hl]; exact lt_of_some hi) r1) (by rw [List.length_set]; exact hl), CXc.of cs sl⟩⟩
theorem pds_drop (he : PD X e w) (hs : swapsWith e none pos.line X.env = pure false := by rfl) : PDs X (.Expr e pos) (wDrop w) :=
  ⟨fun Wx tk => PS.imp (ps_expr (he.run Wx tk) hs) fun D σ H ⟨W, env, S, q, ok, sl, hl, hw, cs⟩ => ⟨W, env, S, _, _, ok, sl, hw, fun d S1 v W1 H1 h1 s1 ok1 r1 => cs.nx _ S1 _ W1 H1 h1 s1 ok1 (sl.mono s1.vis) hl, CXc.of cs sl⟩⟩
theorem pds_ret (he : PD X e w) : PDs X (.Return (some e) pos) (wRet w) :=
  ⟨fun Wx tk => PS.imp (ps_ret (he.run Wx tk)) fun D σ H ⟨W, env, S, q, ok, sl, hl, hw, cs⟩ => ⟨W, env, S, _, _, ok, sl, hw, fun d S1 v W1 H1 h1 s1 ok1 r1 => cs.rt d S1 v W1 H1 h1 s1 ok1 r1, CXc.of cs sl⟩⟩
theorem pds_retN : PDs X (.Return none pos) wRetN := ⟨fun Wx tk => PS.imp ps_retN fun D σ H ⟨W, env, S, q, ok, sl, hl, hw, cs⟩ => cs.rt .non S .non W H hw Stp.refl ok rfl⟩
theorem pds_pass : PDs X (.Pass pos) wNext := ⟨fun Wx tk => PS.imp ps_pass fun D σ H ⟨W, env, S, q, ok, sl, hl, hw, cs⟩ => cs.nx env S σ W H hw Stp.refl ok sl hl⟩
theorem pds_doc {y : Str} {j : Nat} : PDs X (.Expr (.Constant (.str y) j pos) pos') wNext := ⟨fun Wx tk => PS.imp ps_doc fun D σ H ⟨W, env, S, q, ok, sl, hl, hw, cs⟩ => cs.nx env S σ W H hw Stp.refl ok sl hl⟩
theorem pds_break : PDs X (.Break pos) wBreak := ⟨fun Wx tk => PS.imp ps_break fun D σ H ⟨W, env, S, q, ok, sl, hl, hw, cs⟩ => cs.bk env S σ W H hw Stp.refl ok sl hl⟩
theorem pds_cont : PDs X (.Continue pos) wCont := ⟨fun Wx tk => PS.imp ps_continue fun D σ H ⟨W, env, S, q, ok, sl, hl, hw, cs⟩ => cs.ct env S σ W H hw Stp.refl ok sl hl⟩
theorem pds_if {a b : List Stmt} (hc : PDt X e t) (ha : PDss X a u) (hb : PDss X b v) : PDs X (.If e a b pos) (wIf t u v) :=
  ⟨fun Wx tk => PS.imp (ps_if (hc.run Wx tk) (ha.run Wx tk) (hb.run Wx tk)) fun D σ H ⟨W, env, S, q, ok, sl, hl, hw, cs⟩ => ⟨W, env, S, _, _, ok, sl, hw, fun k S1 W1 H1 h1 s1 ok1 => by
    cases k with
    | true => exact iteT ⟨W1, env, S1, q, ok1, sl.mono s1.vis, hl, (if_pos rfl).mp h1, cs.mono s1⟩
    | false => exact iteF ⟨W1, env, S1, q, ok1, sl.mono s1.vis, hl, (if_neg Bool.false_ne_true).mp h1, cs.mono s1⟩, CXc.of cs sl⟩⟩
theorem pds_aug {op : Operator} {ob : O2} (hN : X.N.Nodup) (hi : X.N[i]? = some x) (hx : Loc X.env.scope x) (he : PD X e w) (ho : OpR X (inplaceOp op) (lOp X.K ob)) (hf : X.fn x = true ∨ X.env.scope.names.lookup x = some .local := by first | exact .inl rfl | exact .inr rfl | assumption) :
    PDs X (.AugAssign (.Name x pos') op e pos) (wAug i ob w) :=
  ⟨fun Wx tk => PS.imp (ps_aug hN hi hx (he.run Wx tk) ho hf) fun D σ H ⟨W, env, S, q, ok, sl, hl, hw, cs⟩ => by
    obtain ⟨d, e1, hw⟩ := some!_ex hw
    obtain ⟨v, e2, rv⟩ := sl i d e1
    refine ⟨v, e2, W, env, S, _, _, ok, sl, hw, fun y S1 u W1 H1 h1 s1 ok1 r1 => ?_, CXc.of cs sl⟩
    refine ⟨W1, S1, d, y, _, ok1, rv.mono s1.vis, r1, h1, fun z S2 t W2 H2 h2 s2 ok2 r2 => ?_⟩
    exact cs.nx _ S2 _ W2 H2 h2 (s1.trans s2) ok2 ((sl.mono (s1.trans s2).vis).set (by rw [hl]; exact lt_of_some hi) r2) (by rw [List.length_set]; exact hl)⟩
theorem pd_fld (c : Cls X.K C) (n : NoAttr X.K C f) (hi : N[i]? = some f) (he : PD X e w) (hb : attributeBase e f X.env (eval e X.env) = eval e X.env := by rfl) : PD X (.Attribute e f pos) (wFld C N i w) :=
  ⟨fun Wx tk => PE.imp (pe_fld (he.run Wx tk) hb) fun σ H Q ⟨W, env, S, Q0, X1, ok, sl, hw, cv, cx⟩ => ⟨W, env, S, _, X1, ok, sl, hw, fun d S1 v W1 H1 h1 s1 ok1 r1 => by
    obtain ⟨a, dx, gs, y, u, rfl, e1, e2, ru, h2⟩ := fldD_rep ok1 r1 hi h1
    exact ⟨a, C, dx, gs, u, rfl, e1, c, n, e2, cv y S1 u W1 H1 h2 s1 ok1 ru⟩, cx⟩⟩
theorem pds_setF (c : Cls X.K C) (n : NoAttr X.K C f) (hi : N[i]? = some f) (ho : PD X o wo) (he : PD X e we) (hs : swapsWith e (some (.Attribute o f pos')) pos.line X.env = pure false := by rfl) : PDs X (.Assign [.Attribute o f pos'] e pos) (wSetF C N i wo we) :=
  ⟨fun Wx tk => PS.imp (ps_fld (ho.run Wx tk) (he.run Wx tk) hs) fun D σ H ⟨W, env, S, q, ok, sl, hl, hw, cs⟩ => ⟨W, env, S, _, _, ok, sl, hw, fun d S1 v W1 H1 h1 s1 ok1 r1 =>
    ⟨W1, env, S1, _, _, ok1, sl.mono s1.vis, h1, fun y S2 u W2 H2 h2 s2 ok2 r2 => by
      obtain ⟨a, dx, gs, S3, rfl, e1, e2, st3, ok3, h3⟩ := setD_rep ok2 r2 (r1.mono s2.vis) hi h2
      exact ⟨a, C, dx, gs, rfl, e1, c, n, e2, cs.nx _ S3 _ W2 _ h3 (s1.trans (s2.trans st3)) ok3 (sl.mono (s1.trans s2).vis) hl⟩, CXc.of (cs.mono s1) (sl.mono s1.vis)⟩, CXc.of cs sl⟩⟩
theorem inop_of {op : Operator} {rd : V → V → Hp → VK → Prop} (h : OpR X (inplaceOp op) rd) : InOp X op rd := fun pins s σ H x y u v Q I rx ry q => h pins s σ H x y u v Q I rx ry q
theorem pds_augF {op : Operator} {ob : O2} (c : Cls X.K C) (n : NoAttr X.K C f) (hi : N[i]? = some f) (ho : PD X o wo) (he : PD X e we) (hop : OpR X (inplaceOp op) (lOp X.K ob)) : PDs X (.AugAssign (.Attribute o f tpos) op e pos) (wAugF C N i ob wo we) :=
  ⟨fun Wx tk => PS.imp (ps_fldaug (ho.run Wx tk) (he.run Wx tk) (inop_of hop)) fun D σ H ⟨W, env, S, q, ok, sl, hl, hw, cs⟩ => ⟨W, env, S, _, _, ok, sl, hw, fun d S1 v W1 H1 h1 s1 ok1 r1 => by
    obtain ⟨a, dx, gs, y, u, rfl, e1, e2, ru, h2⟩ := fldD_rep ok1 r1 hi h1
    refine ⟨a, C, dx, gs, u, rfl, e1, c, n, e2, W1, env, S1, _, _, ok1, sl.mono s1.vis, h2, fun z S2 t W2 H2 h3 s2 ok2 r2 => ?_, CXc.of (cs.mono s1) (sl.mono s1.vis)⟩
    refine ⟨W2, S2, y, z, _, ok2, ru.mono s2.vis, r2, h3, fun z2 S3 t2 W3 H3 h4 s3 ok3 r3 => ?_⟩
    obtain ⟨a2, dx2, gs2, S4, e3, e4, e5, st4, ok4, h5⟩ := setD_rep ok3 (r1.mono (s2.trans s3).vis) r3 hi h4
    cases e3
    exact ⟨dx2, gs2, e4, e5, cs.nx _ S4 _ W3 _ h5 (s1.trans (s2.trans (s3.trans st4))) ok4 (sl.mono (s1.trans (s2.trans s3)).vis) hl⟩, CXc.of cs sl⟩⟩
theorem setIx_rep {K : PySem.W.Frag} {W : Hp} {S : Sto} {H : Hp} {o i d : D} {v vi u : V} {k : Sto → Prop} (ok : Ok K W S H) (r : Rep K W o v) (ri : Rep K W i vi) (rd : Rep K W d u) (h : setIx S o i d k) :
    ∃ a xs n j S', v = .ref a ∧ vi = .int j ∧ H a = some (.lst xs) ∧ ixN xs.length j = some n ∧ Stp W S H W S' (upd H a (.lst (xs.set n u))) ∧ Ok K W S' (upd H a (.lst (xs.set n u))) ∧ k S' := by
  cases o with
  | ref a =>
    cases i with
    | int j =>
      have h' : (match S a with | some (.lst xs) => some! (ixN xs.length j) fun n => k (put S a (.lst (xs.set n d))) | _ => False) := h
      cases q : S a with
      | none => rw [q] at h'; exact h'.elim
      | some mo =>
        rw [q] at h'
        cases mo with
        | lst xs =>
          obtain ⟨n, e1, h'⟩ := some!_ex h'
          obtain ⟨o, e3, vs, rfl, rv⟩ := ok.sto _ _ q
          exact ⟨a, vs, n, j, _, r, ri, e3, by rw [rv.length]; exact e1, ok.stC (m := .lst (xs.set n d)) q, ok.chg (m := .lst (xs.set n d)) q ⟨_, rfl, rv.set rd n⟩, h'⟩
        | _ => exact h'.elim
    | _ => exact h.elim
  | _ => exact h.elim
theorem pds_setI {ip : Expr} {p2 : Pos} (ho : PD X o wo) (hi : PD X ip wi) (he : PD X e we) (hs : swapsWithSole [.Subscript o ip p2] e pos.line X.env = pure false := by rfl) (hw : swappedStores [.Subscript o ip p2] e X.env = pure none := by rfl)
    (h1 : (assignEach [.Subscript o ip p2] X.env).map (·.2) = [assign (.Subscript o ip p2) X.env] := by rfl)
    (ha : ∀ v, assign (.Subscript o ip p2) X.env v = (do
      let ov ← holding [v] (eval o X.env)
      let iv ← holding [v, ov] (eval ip X.env)
      standAt p2
      holding [v, ov, iv] (setItem ov iv v)
      release [v, ov, iv] []) := by intro _; rfl) : PDs X (.Assign [.Subscript o ip p2] e pos) (wSetI wo wi we) :=
  ⟨fun Wx tk => PS.imp (ps_asg (he.run Wx tk) (pg_sub (ho.run Wx tk) (hi.run Wx tk) set_list ha) hs hw h1) fun D σ H ⟨W, env, S, q, ok, sl, hl, hw, cs⟩ => ⟨W, env, S, _, _, ok, sl, hw, fun d S1 v W1 H1 h1 s1 ok1 r1 =>
    ⟨W1, env, S1, _, _, ok1, sl.mono s1.vis, h1, fun o1 S2 u W2 H2 h2 s2 ok2 r2 => ⟨W2, env, S2, _, _, ok2, sl.mono (s1.trans s2).vis, h2, fun i1 S3 t W3 H3 h3 s3 ok3 r3 => by
      obtain ⟨a, xs, n, j, S4, rfl, rfl, e1, e2, st4, ok4, h4⟩ := setIx_rep ok3 (r2.mono s3.vis) r3 (r1.mono (s2.trans s3).vis) h3
      exact ⟨a, xs, j, n, rfl, rfl, e1, e2, cs.nx _ S4 _ W3 _ h4 (s1.trans (s2.trans (s3.trans st4))) ok4 (sl.mono (s1.trans (s2.trans s3)).vis) hl⟩, CXc.of (cs.mono (s1.trans s2)) (sl.mono (s1.trans s2).vis)⟩, CXc.of (cs.mono s1) (sl.mono s1.vis)⟩, CXc.of cs sl⟩⟩
end

/-! ### methods of a mutable list -/
def mutL (S : Sto) (d : D) (k : Addr → List D → Prop) : Prop := match d with
  | .ref a => match S a with
    | some (.lst xs) => k a xs
    | _ => False
  | _ => False
theorem mutL_rep {K : PySem.W.Frag} {W : Hp} {S : Sto} {H : Hp} {d : D} {v : V} {k : Addr → List D → Prop} (ok : Ok K W S H) (r : Rep K W d v) (h : mutL S d k) : ∃ a xs vs, d = .ref a ∧ v = .ref a ∧ S a = some (.lst xs) ∧ H a = some (.lst vs) ∧ Reps K W xs vs ∧ k a xs := by
  cases d with
  | ref a =>
    have h' : (match S a with | some (.lst xs) => k a xs | _ => False) := h
    cases q : S a with
    | none => rw [q] at h'; exact h'.elim
    | some mo =>
      rw [q] at h'
      cases mo with
      | lst xs =>
        obtain ⟨o, e3, vs, rfl, rv⟩ := ok.sto _ _ q
        exact ⟨a, xs, vs, rfl, r, q, e3, rv, h'⟩
      | _ => exact h'.elim
  | _ => exact h.elim
def lM (K : PySem.W.Frag) (o : OM) : V → List V → Hp → VK → Prop := fun x xs H Q => ∃ W S d ds Q0, Ok K W S H ∧ Rep K W d x ∧ Reps K W ds xs ∧ o S d ds Q0 ∧ CV K W S H Q0 Q
def wMt (o : OM) (wo : WPe) (wa : WPa) : WPe := fun env S Q X => wo env S (fun x S1 => mutL S1 x fun _ _ => wa env S1 (fun ds S2 => o S2 x ds Q) X) X
theorem MtR.imp {X : Cx} {id : String} {r r' : V → List V → Hp → VK → Prop} (h : MtR X id r) (i : ∀ x xs H Q, r' x xs H Q → r x xs H Q) : MtR X id r' := fun pins s σ H x xs v us Q I rx rs q => h pins s σ H x xs v us Q I rx rs (i _ _ _ _ q)
section
variable {X : Cx} {o e : Expr} {es : List Expr} {name : Str} {apos cpos : Pos} {mid : String} {om : OM} {wo : WPe} {wa : WPa}
theorem pd_lm (slot : Slot "list" name mid) (hty : typeOf (.builtin mid) = pure (.type "method_descriptor")) (hm : MtR X mid (lM X.K om)) (ho : PD X o wo) (ha : PDa X (e :: es) wa)
    (hbase : attributeBase o name X.env (eval o X.env) = eval o X.env := by rfl)
    (hfew : ((backTo cpos (starEach (e :: es) X.env)).all (fun x => !x.1) && (backToKw cpos (keywordEach [] X.env)).all (fun x => x.1.isSome)
      && decide ((e :: es).length + ([] : List Keyword).length + (if ([] : List Keyword).isEmpty then 0 else 1) < 30)) = true := by rfl)
    (hline : (apos.endLine == cpos.line) = true := by rfl) (hs : starEach (e :: es) X.env = (false, eval e X.env) :: starEach es X.env := by rfl) (hplain : (backTo cpos (starEach es X.env)).any (·.1) = false := by rfl) :
    PD X (.Call (.Attribute o name apos) (e :: es) [] cpos) (wMt om wo wa) :=
  ⟨fun Wx tk => PE.imp (pe_bm PySem.F.plainAttrs_list slot hty hm (ho.run Wx tk) (ha.run Wx tk) hbase hfew hline hs hplain) fun σ H Q ⟨W, env, S, Q0, X1, ok, sl, hw, cv, cx⟩ => ⟨W, env, S, _, X1, ok, sl, hw, fun d S1 v W1 H1 h1 s1 ok1 r1 => by
    obtain ⟨a, xs, vs, rfl, rfl, e1, e2, rv, h2⟩ := mutL_rep ok1 r1 h1
    exact ⟨.inl ⟨rfl, vs, SqL.of e2⟩, W1, env, S1, _, X1, ok1, sl.mono s1.vis, h2, fun ds S2 us W2 H2 h3 s2 ok2 r2 => ⟨W2, S2, _, ds, Q0, ok2, r1.mono s2.vis, r2, h3, cv.mono (s1.trans s2)⟩, cx.mono s1⟩, cx⟩⟩
theorem pd_lm0 (slot : Slot "list" name mid) (hty : typeOf (.builtin mid) = pure (.type "method_descriptor")) (hm : MtR X mid (lM X.K om)) (ho : PD X o wo)
    (hbase : attributeBase o name X.env (eval o X.env) = eval o X.env := by rfl) (hline : (apos.endLine == cpos.line) = true := by rfl) :
    PD X (.Call (.Attribute o name apos) [] [] cpos) (wMt om wo wNil) :=
  ⟨fun Wx tk => PE.imp (pe_bm0 PySem.F.plainAttrs_list slot hty hm (ho.run Wx tk) hbase hline) fun σ H Q ⟨W, env, S, Q0, X1, ok, sl, hw, cv, cx⟩ => ⟨W, env, S, _, X1, ok, sl, hw, fun d S1 v W1 H1 h1 s1 ok1 r1 => by
    obtain ⟨a, xs, vs, rfl, rfl, e1, e2, rv, h2⟩ := mutL_rep ok1 r1 h1
    exact ⟨.inl ⟨rfl, vs, SqL.of e2⟩, W1, S1, _, [], Q0, ok1, r1, rfl, h2, cv.mono s1⟩, cx⟩⟩
def oAppend : OM := fun S d ds Q => mutL S d fun a xs => one ds fun e => xs.length < sizeLine ∧ Q .non (put S a (.lst (xs ++ [e])))
theorem md_append : MtR X "list.append" (lM X.K oAppend) := MtR.imp mt_append fun x vs H Q ⟨W, S, d, ds, Q0, ok, r, rs, ho, cv⟩ => by
  obtain ⟨a, xs, us, rfl, rfl, e1, e2, rv, h⟩ := mutL_rep ok r ho
  obtain ⟨y, rfl, hz, h⟩ := one_ex h
  obtain ⟨t, rfl, rt⟩ := reps1 rs
  exact ⟨a, us, t, rfl, rfl, e2, by rw [rv.length]; exact hz, cv _ _ _ _ _ h (ok.stC e1) (ok.chg e1 ⟨_, rfl, rv.append (Reps.one rt)⟩) rfl⟩
def oExtend : OM := fun S d ds Q => mutL S d fun a xs => one ds fun e => some! (seqM S e) fun ys => xs.length + ys.length ≤ sizeLine ∧ Q .non (put S a (.lst (xs ++ ys)))
theorem md_extend : MtR X "list.extend" (lM X.K oExtend) := MtR.imp mt_extend fun x vs H Q ⟨W, S, d, ds, Q0, ok, r, rs, ho, cv⟩ => by
  obtain ⟨a, xs, us, rfl, rfl, e1, e2, rv, h⟩ := mutL_rep ok r ho
  obtain ⟨y, rfl, h⟩ := one_ex h
  obtain ⟨ys, e3, hz, h⟩ := some!_ex h
  obtain ⟨t, rfl, rt⟩ := reps1 rs
  obtain ⟨b, zs, rfl, e4, rz⟩ := seqM_rep ok rt e3
  exact ⟨a, b, us, zs, rfl, rfl, e2, e4, by rw [rv.length, rz.length]; exact hz, cv _ _ _ _ _ h (ok.stC e1) (ok.chg e1 ⟨_, rfl, rv.append rz⟩) rfl⟩
theorem reps_dropLast {K : PySem.W.Frag} {W : Hp} {xs : List D} {vs : List V} (r : Reps K W xs vs) : Reps K W xs.dropLast vs.dropLast := by
  rw [List.dropLast_eq_take, List.dropLast_eq_take, r.length]
  exact r.take _
def oPop : OM := fun S d ds Q => mutL S d fun a xs => ds = [] ∧ some! xs[xs.length - 1]? fun y => Q y (put S a (.lst xs.dropLast))
theorem md_pop : MtR X "list.pop" (lM X.K oPop) := MtR.imp mt_pop fun x vs H Q ⟨W, S, d, ds, Q0, ok, r, rs, ho, cv⟩ => by
  obtain ⟨a, xs, us, rfl, rfl, e1, e2, rv, rfl, h⟩ := mutL_rep ok r ho
  obtain ⟨y, e3, h⟩ := some!_ex h
  obtain ⟨t, e4, rt⟩ := rv.get e3
  have e5 : vs = [] := rs
  exact ⟨a, us, t, rfl, e5, e2, by rw [rv.length]; exact e4, cv _ _ _ _ _ h (ok.stC e1) (ok.chg e1 ⟨_, rfl, reps_dropLast rv⟩) rt⟩
end

/-! ### defs -/
section
variable {P : Program} {w : World} {K : PySem.W.Frag} {mg : Str → Option Value} {base : Heap}
def startD (N : List Str) (ds : List D) : DE := ds.map some ++ List.replicate (N.length - ds.length) none
theorem getV_map : ∀ {ds : List D} {m : Nat} {i : Nat} {d : D}, getV (ds.map some ++ List.replicate m none) i = some d → ds[i]? = some d
  | [], 0, i, d, h => by cases h
  | [], m + 1, 0, d, h => by cases h
  | [], m + 1, i + 1, d, h => by
    have h' := getV_map (ds := []) (m := m) (i := i) h
    simp at h'
  | x :: r, m, 0, d, h => h
  | x :: r, m, i + 1, d, h => getV_map (ds := r) (m := m) (i := i) h
theorem sl_start {W : Hp} {N : List Str} {ds : List D} {vs : List V} (r : Reps K W ds vs) : Sl K W (startD N ds) (L2.start N vs) := fun i d h => by
  obtain ⟨v, e, rv⟩ := r.get (getV_map h)
  refine ⟨v, ?_, rv⟩
  unfold L2.start
  rw [List.getElem?_append_left (by rw [List.length_map]; exact lt_of_some e), List.getElem?_map, e]
  rfl
/-- THE RULE for a def: its body as a derivation, and its reading over data -/
theorem Fun.okD {x qual : Str} {st : Stmt} {f : Addr} {fd : FuncData} {N ps : List Str} {k : Nat} {spec : Ctr} (F : Fun K x qual st f fd) (S : FnScope N ps (defScope st)) (hle : ps.length ≤ N.length)
    (len : ∀ ds S Q E, spec ds S Q E → ds.length = ps.length)
    (hbody : ∀ (cdv : Value) (A : Around) (outer : List Env) (s : Shared) (H : Hp) (E : XK), Room k (A.deeper (envOfC qual (defScope st) s.heap.objs.size f cdv)) →
      ∃ ws, PDss (cxOf (L2.CX P w) P w K mg base N qual (defScope st) f cdv A outer s H E) (defBody st) ws ∧ ∀ ds S Q X1, spec ds S Q X1 → ws (startD N ds) S { nx := fun _ S' => Q .non S', rt := Q, bk := fun _ _ => False, ct := fun _ _ => False, xc := fun C fs _ S' => X1 C fs S' }) :
    FnD P w K mg base (k + 1) f fd ps spec := by
  refine F.okX S (fun vs H Q E ⟨W, S', ds, Q0, X1, ok, r, h, _⟩ => ?_) (fun cdv A outer s H vs Q E hr ⟨W, S', ds, Q0, X1, ok, r, h, cv, cx⟩ => ?_)
  · rw [r.length]; exact len ds S' Q0 X1 h
  · obtain ⟨ws, hp, hq⟩ := hbody cdv A outer s H E hr
    refine ⟨_, hp.run (fun c d σ H' => E c d H') (takes_of rfl rfl rfl rfl), W, _, S', _, ok, sl_start r, ?_, hq ds S' Q0 X1 h, ?_, ?_, ?_, ?_, ?_⟩
    · have e := r.length
      have e2 := len ds S' Q0 X1 h
      show (L2.start N vs).length = N.length
      unfold L2.start
      rw [List.length_append, List.length_map, List.length_replicate]
      omega
    · exact fun _ S1 σ1 W1 H1 h1 s1 ok1 _ _ => cv .non S1 .non W1 H1 h1 s1 ok1 rfl
    · exact fun d S1 v W1 H1 h1 s1 ok1 r1 => cv d S1 v W1 H1 h1 s1 ok1 r1
    · exact fun _ _ _ _ _ h1 _ _ _ => h1.elim
    · exact fun _ _ _ _ _ h1 _ _ _ => h1.elim
    · exact fun C fs _ S1 dd gs _ W1 H1 h1 s1 ok1 _ e1 r1 => cx C fs S1 dd gs W1 H1 h1 s1 ok1 e1 r1
end
end DL
set_option Elab.async false
set_option linter.all false
set_option maxRecDepth 100000
set_option maxHeartbeats 1000000
/-! The data layer, part g: targets, loops, comprehensions. -/
namespace DL
open PySem PySem.Spec PyProof.Rows L2

/-! ### targets: names and tuples of names -/
abbrev WPg := D → DE → (DE → Prop) → Prop
def gN (i : Nat) : WPg := fun d env k => k (setV env i d)
def gAll : List WPg → List D → DE → (DE → Prop) → Prop
  | [], [], env, k => k env
  | g :: gs, d :: ds, env, k => g d env fun e => gAll gs ds e k
  | _, _, _, _ => False
def gT (gs : List WPg) : WPg := fun d env k => match d with
  | .tup xs => xs.length = gs.length ∧ gAll gs xs env k
  | _ => False
def lG (K : PySem.W.Frag) (n : Nat) (vs : List Nat) (t : WPg) : TG := fun v σ H Q => ∃ W S env d k, Ok K W S H ∧ Sl K W env σ ∧ σ.length = n ∧ Rep K W d v ∧ t d env k ∧
  ∀ e σ', k e → Sl K W e σ' → σ'.length = n → wipe σ' vs = wipe σ vs → Q σ' H
def lGs (K : PySem.W.Frag) (n : Nat) (vs : List Nat) (ts : List WPg) : TGs := fun v σ H Q => ∃ W S env d k, Ok K W S H ∧ Sl K W env σ ∧ σ.length = n ∧ Reps K W d v ∧ gAll ts d env k ∧
  ∀ e σ', k e → Sl K W e σ' → σ'.length = n → wipe σ' vs = wipe σ vs → Q σ' H
structure PDg (X : Cx) (tg : Expr) (vs : List Nat) (t : WPg) : Prop where
  run : PG X tg (lG X.K X.N.length vs t)
structure PDgs (X : Cx) (tg : List Expr) (vs : List Nat) (t : List WPg) : Prop where
  run : PGs X tg (lGs X.K X.N.length vs t)
theorem wipe_set : ∀ {vs : List Nat} {σ : L2.St} {i : Nat} {o : Option V}, i ∈ vs → wipe (σ.set i o) vs = wipe σ vs
  | [], _, _, _, h => by cases h
  | v :: vs, σ, i, o, h => by
    show (wipe (σ.set i o) vs).set v none = (wipe σ vs).set v none
    by_cases hi : i ∈ vs
    · rw [wipe_set hi]
    · have e : i = v := by
        cases h with
        | head => rfl
        | tail _ h => exact absurd h hi
      subst e
      have key : ∀ {us : List Nat} {τ : L2.St}, i ∉ us → wipe (τ.set i o) us = (wipe τ us).set i o := fun {us τ} => by
        induction us with
        | nil => intro _; rfl
        | cons u us ih =>
          intro hu
          have h1 : i ≠ u := fun z => hu (by rw [z]; exact List.mem_cons_self)
          show (wipe (τ.set i o) us).set u none = ((wipe τ us).set u none).set i o
          rw [ih (fun z => hu (List.mem_cons_of_mem _ z)), List.set_comm _ _ h1]
      rw [key hi, List.set_set]
theorem PG.imp {X : Cx} {tg : Expr} {g g' : TG} (h : PG X tg g) (i : ∀ v σ H Q, g' v σ H Q → g v σ H Q) : PG X tg g' := ⟨fun pins s σ H v u Q I r q => h.run pins s σ H v u Q I r (i _ _ _ _ q)⟩
theorem PGs.imp {X : Cx} {tg : List Expr} {g g' : TGs} (h : PGs X tg g) (i : ∀ v σ H Q, g' v σ H Q → g v σ H Q) : PGs X tg g' := ⟨fun pins s σ H v u Q I r q => h.run pins s σ H v u Q I r (i _ _ _ _ q)⟩
section
variable {X : Cx} {pos : Pos} {vs : List Nat} {x : Str} {i : Nat} {e : Expr} {es : List Expr} {t : WPg} {ts : List WPg}
theorem pdg_name (hN : X.N.Nodup) (hi : X.N[i]? = some x) (hx : Loc X.env.scope x) (hv : i ∈ vs) (hf : X.fn x = true ∨ X.env.scope.names.lookup x = some .local := by first | exact .inl rfl | exact .inr rfl | assumption) : PDg X (.Name x pos) vs (gN i) :=
  ⟨PG.imp (pg_name hN hi hx hf) fun v σ H Q ⟨W, S, env, d, k, ok, sl, hl, r, ht, hq⟩ => hq _ _ ht (sl.set (by rw [hl]; exact lt_of_some hi) r) (by rw [List.length_set]; exact hl) (wipe_set hv)⟩
theorem pdgs_nil : PDgs X [] vs [] := ⟨PGs.imp pgs_nil fun v σ H Q ⟨W, S, env, d, k, ok, sl, hl, r, ht, hq⟩ => by
  cases d with
  | nil => exact ⟨r, hq _ _ ht sl hl rfl⟩
  | cons _ _ => exact ht.elim⟩
theorem pdgs_cons (h1 : PDg X e vs t) (h2 : PDgs X es vs ts) (hs : (assignEach (e :: es) X.env).map (·.2) = assign e X.env :: (assignEach es X.env).map (·.2) := by rfl) : PDgs X (e :: es) vs (t :: ts) :=
  ⟨PGs.imp (pgs_cons h1.run h2.run hs) fun v σ H Q ⟨W, S, env, d, k, ok, sl, hl, r, ht, hq⟩ => by
    cases d with
    | nil => exact ht.elim
    | cons d ds =>
      obtain ⟨u, us, e1, r1, r2⟩ := r
      refine ⟨u, us, e1, W, S, env, d, _, ok, sl, hl, r1, ht, fun e σ1 h1 sl1 hl1 hw1 => ⟨W, S, e, ds, k, ok, sl1, hl1, r2, h1, fun e2 σ2 h2 sl2 hl2 hw2 => hq e2 σ2 h2 sl2 hl2 (hw2.trans hw1)⟩⟩⟩
theorem pdg_tup {z : Nat} (hc : X.calm = true) (h : PDgs X es vs ts) (hn : (assignEach es X.env).length = ts.length := by rfl) (hst : (assignEach es X.env).findIdx? (·.1) = none := by rfl) : PDg X (.Tuple es z pos) vs (gT ts) :=
  ⟨PG.imp (pg_tup hc h.run hn hst) fun v σ H Q ⟨W, S, env, d, k, ok, sl, hl, r, ht, hq⟩ => by
    cases d with
    | tup xs =>
      obtain ⟨a, us, e1, e2, e3⟩ := r
      exact ⟨a, us, e1, sqT_mono ok.vis e2, by rw [e3.length]; exact ht.1, W, S, env, xs, k, ok, sl, hl, e3, ht.2, hq⟩
    | _ => exact ht.elim⟩
end

/-! ### what is walked -/
abbrev WPi := DE → Sto → (List D → (Sto → Prop) → Sto → Prop) → XQ → Prop
structure JOk (K : PySem.W.Frag) (J : It) (W0 : Hp) (items : List D) (g : Sto → Prop) : Prop where
  step : ∀ (i : Nat) W S H d, items[i]? = some d → Same W0 W → Ok K W S H → g S → J.go i H ∧ ∀ x H', J.yld i H x H' → ∃ W', Stp W S H W' S H' ∧ Ok K W' S H' ∧ Rep K W' d x
  stop : ∀ W S H, Same W0 W → Ok K W S H → g S → J.stop items.length H
def lI (K : PySem.W.Frag) (Wx : WX) (w : WPi) : TI := fun σ H R => ∃ W env S Q0 X0, Ok K W S H ∧ Sl K W env σ ∧ w env S Q0 X0 ∧
  (∀ items g S' W' H' J, Q0 items g S' → Stp W S H W' S' H' → Ok K W' S' H' → JOk K J W' items g → R J H') ∧ CXc K W S H X0 (fun c d H' => Wx c d σ H')
structure PDi (X : Cx) (tg e : Expr) (w : WPi) : Prop where
  run : ∀ Wx, Takes X Wx → PI X tg e (lI X.K Wx w)
theorem PI.imp {X : Cx} {tg e : Expr} {t t' : TI} (h : PI X tg e t) (i : ∀ σ H R, t' σ H R → t σ H R) : PI X tg e t' := ⟨fun pins s σ H R I q => h.run pins s σ H R I (i _ _ _ q)⟩
/-- a list or a tuple -/
def iSeq (K : PySem.W.Frag) (tl : TE) : TI := fun σ H R => tl σ H fun x H1 => ∃ a, x = .ref a ∧ (((∃ xs, SqL K H1 a xs) ∧ R (Itl K a) H1) ∨ ((∃ xs, SqT K H1 a xs) ∧ R (Itt K a) H1))
theorem pi_seq {X : Cx} {tg l : Expr} {tl : TE} (hl : PE X l tl) : PI X tg l (iSeq X.K tl) := by
  refine ⟨fun pins s σ H R I h => ?_⟩
  refine thn (hl.run pins s σ H _ I h) fun v s1 ⟨x, H1, I1, r1, q1⟩ => ?_
  obtain ⟨a, e, ⟨⟨xs, hq⟩, q⟩ | ⟨⟨xs, hq⟩, q⟩⟩ := q1
  · subst e
    cases r1
    obtain ⟨its, rv, p, hz⟩ := I1.list hq
    refine wpAny_pyIter_list p.isList ?_
    refine ⟨s1.heap.objs.size, [s1.heap.objs.size], _, _, H1, rfl, I1.kept (t' := s1.toks) fun b o e => Heap.get?_push_of_some _ e, turn_list a _, ⟨_, Heap.get?_push_size _ rfl, rfl, rfl⟩, fun b hb => ?_, q⟩
    have e : b = s1.heap.objs.size := by simpa using hb
    subst e
    exact I1.fpOk (Nat.le_refl _) (I1.hok.fresh (Nat.le_refl _))
  · subst e
    cases r1
    obtain ⟨its, rv, p, hz⟩ := I1.tuple hq
    refine wpAny_pyIter_tuple (show s1.heap.IsTuple a its.toArray from p) ?_
    refine ⟨s1.heap.objs.size, [s1.heap.objs.size], _, _, H1, rfl, I1.kept (t' := s1.toks) fun b o e => Heap.get?_push_of_some _ e, turn_tuple a _, ⟨_, Heap.get?_push_size _ rfl, rfl, rfl⟩, fun b hb => ?_, q⟩
    have e : b = s1.heap.objs.size := by simpa using hb
    subst e
    exact I1.fpOk (Nat.le_refl _) (I1.hok.fresh (Nat.le_refl _))
def wIt (w : WPe) : WPi := fun env S Q X => w env S (fun d S1 => some! (seqA S1 d) fun xs => Q xs (fun S' => seqA S' d = some xs) S1) X
section
variable {K : PySem.W.Frag}
theorem jok_list {W0 : Hp} {S0 : Sto} {H0 : Hp} {d : D} {a : Addr} {xs : List D} (ok : Ok K W0 S0 H0) (r : Rep K W0 d (.ref a)) (hL : seqL S0 d = some xs) (hA : ∀ {S}, seqA S d = seqL S d) :
    (∃ vs, SqL K H0 a vs) ∧ JOk K (Itl K a) W0 xs (fun S' => seqA S' d = some xs) := by
  obtain ⟨b, ws, e1, e2, e3⟩ := seqL_rep ok r hL
  cases e1
  refine ⟨⟨ws, e2⟩, ⟨fun i W S H d hd s1 ok1 g => ?_, fun W S H s1 ok1 g => ?_⟩⟩
  · rw [hA] at g
    obtain ⟨c, zs, e7, e8, e9⟩ := seqL_rep ok1 (r.mono s1) g
    cases e7
    obtain ⟨u, hu, ru⟩ := e9.get hd
    refine ⟨⟨zs, u, e8, hu⟩, fun x H' ⟨e4, e5⟩ => ?_⟩
    subst e4
    have e6 := e5 zs e8
    rw [hu] at e6
    cases e6
    exact ⟨W, Stp.refl, ok1, ru⟩
  · rw [hA] at g
    obtain ⟨c, zs, e7, e8, e9⟩ := seqL_rep ok1 (r.mono s1) g
    cases e7
    exact ⟨zs, e8, Nat.le_of_eq e9.length⟩
theorem jok_seq {W0 : Hp} {S0 : Sto} {H0 : Hp} {d : D} {v : V} {xs : List D} (ok : Ok K W0 S0 H0) (r : Rep K W0 d v) (h : seqA S0 d = some xs) :
    ∃ a, v = .ref a ∧ (((∃ vs, SqL K H0 a vs) ∧ JOk K (Itl K a) W0 xs (fun S' => seqA S' d = some xs)) ∨ ((∃ vs, SqT K H0 a vs) ∧ JOk K (Itt K a) W0 xs (fun S' => seqA S' d = some xs))) := by
  obtain ⟨a, vs, rfl, hq, rv⟩ := seqA_rep ok r h
  refine ⟨a, rfl, ?_⟩
  cases d with
  | tup ys =>
    cases h
    obtain ⟨b, ws, e1, e2, e3⟩ := r
    cases e1
    refine .inr ⟨⟨ws, sqT_mono ok.vis e2⟩, ⟨fun i W S H d hd s1 ok1 _ => ?_, fun W S H s1 ok1 _ => ?_⟩⟩
    · obtain ⟨u, hu, ru⟩ := e3.get hd
      have hT := sqT_mono (s1.trans ok1.vis) e2
      refine ⟨⟨ws, u, hT, hu⟩, fun x H' ⟨e4, e5⟩ => ?_⟩
      subst e4
      have e6 := e5 ws hT
      rw [hu] at e6
      cases e6
      exact ⟨W, Stp.refl, ok1, ru.mono s1⟩
    · exact ⟨ws, sqT_mono (s1.trans ok1.vis) e2, Nat.le_of_eq e3.length⟩
  | lst ys => exact .inl (jok_list ok r h rfl)
  | fro ys => exact .inl (jok_list ok r h rfl)
  | ref b => exact .inl (jok_list ok r h rfl)
  | _ => cases h
end
section
variable {X : Cx} {tg e a b : Expr} {w wa wb : WPe} {p pos : Pos}
theorem pdi_seq (h : PD X e w) : PDi X tg e (wIt w) :=
  ⟨fun Wx tk => PI.imp (pi_seq (h.run Wx tk)) fun σ H R ⟨W, env, S, Q0, X1, ok, sl, hw, cv, cx⟩ => ⟨W, env, S, _, X1, ok, sl, hw, fun d S1 v W1 H1 h1 s1 ok1 r1 => by
    obtain ⟨xs, e1, h1⟩ := some!_ex h1
    obtain ⟨a, rfl, ⟨q, j⟩ | ⟨q, j⟩⟩ := jok_seq ok1 r1 e1
    · exact ⟨a, rfl, .inl ⟨q, cv _ _ S1 W1 H1 _ h1 s1 ok1 j⟩⟩
    · exact ⟨a, rfl, .inr ⟨q, cv _ _ S1 W1 H1 _ h1 s1 ok1 j⟩⟩, cx⟩⟩
def rngD (lo : Int) (n : Nat) : List D := (List.range n).map fun (i : Nat) => D.int (lo + (i : Int))
theorem rngD_get {lo : Int} {n i : Nat} {d : D} (h : (rngD lo n)[i]? = some d) : i < n ∧ d = .int (lo + (i : Int)) := by
  unfold rngD at h
  rw [List.getElem?_map] at h
  by_cases hi : i < n
  · rw [List.getElem?_range hi] at h
    exact ⟨hi, (Option.some.inj h).symm⟩
  · rw [List.getElem?_eq_none (by rw [List.length_range]; omega)] at h
    cases h
theorem rngD_length {lo : Int} {n : Nat} : (rngD lo n).length = n := by
  unfold rngD
  rw [List.length_map, List.length_range]
theorem jok_rng {K : PySem.W.Frag} {W0 : Hp} {lo : Int} {n : Nat} : JOk K (Itr lo n) W0 (rngD lo n) (fun _ => True) :=
  ⟨fun i W S H d hd s1 ok1 _ => by
    obtain ⟨hi, rfl⟩ := rngD_get hd
    exact ⟨hi, fun x H' ⟨e1, e2⟩ => by subst e1; exact ⟨W, Stp.refl, ok1, e2⟩⟩, fun W S H _ _ _ => by rw [rngD_length]; exact Nat.le_refl _⟩
def wRg1 (wa : WPe) : WPi := fun env S Q X => wa env S (fun a S1 => asI a fun j => (-(2 ^ 62) ≤ j ∧ j < 2 ^ 62) ∧ Q (rngD 0 j.toNat) (fun _ => True) S1) X
def wRg2 (wa wb : WPe) : WPi := fun env S Q X => wa env S (fun a S1 => asI a fun i => wb env S1 (fun b S2 => asI b fun j => (-(2 ^ 62) ≤ i ∧ i < 2 ^ 62 ∧ -(2 ^ 62) ≤ j ∧ j < 2 ^ 62) ∧ Q (rngD i (j - i).toNat) (fun _ => True) S2) X) X
theorem pdi_rg1 (hm : X.mg "range" = none) (ha : PD X a wa) (hg : Gl X "range" := by rfl) (hs : starEach [a] X.env = [(false, eval a X.env)] := by rfl) : PDi X tg (.Call (.Name "range" p) [a] [] pos) (wRg1 wa) :=
  ⟨fun Wx tk => PI.imp (pi_range1 hg hm (pa_cons (ha.run Wx tk) pa_nil hs) hs) fun σ H R ⟨W, env, S, Q0, X1, ok, sl, hw, cv, cx⟩ => ⟨W, env, S, _, X1, ok, sl, hw, fun d S1 v W1 H1 h1 s1 ok1 r1 => by
    obtain ⟨j, rfl, ⟨h2, h3⟩, h4⟩ := asI_ex h1
    exact ⟨j, by rw [show v = .int j from r1], h2, h3, cv _ _ S1 W1 H1 _ h4 s1 ok1 jok_rng⟩, cx⟩⟩
theorem pdi_rg2 (hm : X.mg "range" = none) (ha : PD X a wa) (hb : PD X b wb) (hg : Gl X "range" := by rfl) (hs : starEach [a, b] X.env = [(false, eval a X.env), (false, eval b X.env)] := by rfl) (hs2 : starEach [b] X.env = [(false, eval b X.env)] := by rfl) :
    PDi X tg (.Call (.Name "range" p) [a, b] [] pos) (wRg2 wa wb) :=
  ⟨fun Wx tk => PI.imp (pi_range2 hg hm (pa_cons (ha.run Wx tk) (pa_cons (hb.run Wx tk) pa_nil hs2) (by rw [hs, hs2])) hs hs2) fun σ H R ⟨W, env, S, Q0, X1, ok, sl, hw, cv, cx⟩ => ⟨W, env, S, _, X1, ok, sl, hw, fun d S1 v W1 H1 h1 s1 ok1 r1 => by
    obtain ⟨i, rfl, h1⟩ := asI_ex h1
    refine ⟨W1, env, S1, _, X1, ok1, sl.mono s1.vis, h1, fun d2 S2 u W2 H2 h2 s2 ok2 r2 => ?_, cx.mono s1⟩
    obtain ⟨j, rfl, h3, h4⟩ := asI_ex h2
    exact ⟨i, j, by rw [show v = .int i from r1, show u = .int j from r2], h3, cv _ _ S2 W2 H2 _ h4 (s1.trans s2) ok2 jok_rng⟩, cx⟩⟩
end

/-! ### for -/
/-- by an invariant over (turn, slots, store) -/
def forI (t : WPg) (body : WPs) (g : Sto → Prop) (items : List D) (env : DE) (S : Sto) (q : QS) : Prop := ∃ P : Nat → DE → Sto → Prop, P 0 env S ∧ (∀ i e S, i ≤ items.length → P i e S → g S) ∧
  (∀ i d e S, items[i]? = some d → P i e S → t d e fun e1 => body e1 S { q with nx := P (i + 1), ct := P (i + 1), bk := q.nx }) ∧ ∀ e S, P items.length e S → q.nx e S
/-- turn by turn -/
def forL (t : WPg) (body : WPs) (g : Sto → Prop) : List D → WPs
  | [], env, S, q => g S ∧ q.nx env S
  | d :: r, env, S, q => g S ∧ t d env fun e => body e S { q with nx := fun e2 S2 => forL t body g r e2 S2 q, ct := fun e2 S2 => forL t body g r e2 S2 q, bk := q.nx }
theorem forI_of {t : WPg} {body : WPs} {g : Sto → Prop} {items : List D} {env : DE} {S : Sto} {q : QS} (h : forL t body g items env S q) : forI t body g items env S q := by
  refine ⟨fun i e S => forL t body g (items.drop i) e S q, h, fun i e S hi h => ?_, fun i d e S hd h => ?_, fun e S h => ?_⟩
  · dsimp only at h
    by_cases hlt : i < items.length
    · rw [List.drop_eq_getElem_cons hlt] at h
      exact h.1
    · rw [List.drop_eq_nil_of_le (by omega)] at h
      exact h.1
  · dsimp only at h
    obtain ⟨hlt, e1⟩ := List.getElem?_eq_some_iff.mp hd
    subst e1
    rw [List.drop_eq_getElem_cons hlt] at h
    exact h.2
  · dsimp only at h
    rw [List.drop_length] at h
    exact h.2
/-- a fold -/
theorem forI_fold {α : Type} {t : WPg} {body : WPs} {g : Sto → Prop} {items : List D} {env : DE} {S : Sto} {q : QS} (st : α → DE → Sto → Prop) (step : α → D → α) (init : α) (h0 : st init env S) (hg : ∀ a e S, st a e S → g S)
    (hs : ∀ i d a e S, items[i]? = some d → a = (items.take i).foldl step init → st a e S → t d e fun e1 => body e1 S { q with nx := st (step a d), ct := st (step a d), bk := q.nx }) (hd : ∀ e S, st (items.foldl step init) e S → q.nx e S) : forI t body g items env S q := by
  refine ⟨fun i e S => st ((items.take i).foldl step init) e S, by simpa using h0, fun i e S _ h => hg _ e S h, fun i d e S hi h => ?_, fun e S h => hd e S (by simpa using h)⟩
  have key : (items.take (i + 1)).foldl step init = step ((items.take i).foldl step init) d := by
    rw [List.take_add_one, hi]
    simp
  dsimp only
  rw [key]
  exact hs i d _ e S hi rfl h
/-- .. what follows the body told by what it wants -/
theorem forI_foldq {α : Type} {t : WPg} {body : WPs} {g : Sto → Prop} {items : List D} {env : DE} {S : Sto} {q : QS} (st : α → DE → Sto → Prop) (step : α → D → α) (init : α) (h0 : st init env S) (hg : ∀ a e S, st a e S → g S)
    (hs : ∀ i d a e S, items[i]? = some d → a = (items.take i).foldl step init → st a e S → ∀ q' : QS, (∀ e S, st (step a d) e S → q'.nx e S) → q'.rt = q.rt → q'.bk = q.nx → q'.ct = q'.nx → q'.xc = q.xc → t d e fun e1 => body e1 S q') (hd : ∀ e S, st (items.foldl step init) e S → q.nx e S) : forI t body g items env S q :=
  forI_fold st step init h0 hg (fun i d a e S hi ha h => hs i d a e S hi ha h _ (fun _ _ z => z) rfl rfl rfl rfl) hd
/-- .. by an invariant -/
theorem forI_invq {t : WPg} {body : WPs} {g : Sto → Prop} {items : List D} {env : DE} {S : Sto} {q : QS} (P : Nat → DE → Sto → Prop) (h0 : P 0 env S) (hg : ∀ i e S, P i e S → g S)
    (hs : ∀ i d e S, items[i]? = some d → P i e S → ∀ q' : QS, (∀ e S, P (i + 1) e S → q'.nx e S) → q'.rt = q.rt → q'.bk = q.nx → q'.ct = q'.nx → q'.xc = q.xc → t d e fun e1 => body e1 S q') (hd : ∀ e S, P items.length e S → q.nx e S) : forI t body g items env S q :=
  ⟨P, h0, fun i e S _ h => hg i e S h, fun i d e S hi h => hs i d e S hi h _ (fun _ _ z => z) rfl rfl rfl rfl, hd⟩
def wFor (wi : WPi) (t : WPg) (body : WPs) : WPs := fun env S q => wi env S (fun items g S1 => forI t body g items env S1 q) (xcQ q env)
section
variable {X : Cx} {tg iter : Expr} {body : List Stmt} {wi : WPi} {t : WPg} {ws : WPs} {pos : Pos} {vs : List Nat}
theorem pds_for (hc : X.calm = true) (hp : PassesOwn (model X.prog X.w) X.A X.env X.xe) (hi : PDi X tg iter wi) (hg : PDg X tg vs t) (hb : PDss X body ws) (hs : ∀ x, foldedSetIterable iter X.env x = pure x := by intro _; rfl) : PDs X (.For tg iter body [] pos) (wFor wi t ws) :=
  ⟨fun Wx tk => PS.imp (ps_for hp hc (hi.run Wx tk) hg.run (hb.run Wx tk) hs) fun D σ H ⟨W, env, S, q, ok, sl, hl, hw, cs⟩ => by
    refine ⟨W, env, S, _, _, ok, sl, hw, fun items g S1 W1 H1 J ⟨P, h0, hg0, hs0, hd0⟩ s1 ok1 jok => ?_, CXc.of cs sl⟩
    refine ⟨fun i m σ' H' => m = items.length - i ∧ i ≤ items.length ∧ σ'.length = X.N.length ∧ ∃ W' env' S', Stp W1 S1 H1 W' S' H' ∧ Ok X.K W' S' H' ∧ Sl X.K W' env' σ' ∧ P i env' S',
      ⟨items.length, rfl, Nat.zero_le _, hl, W1, env, S1, Stp.refl, ok1, sl.mono s1.vis, h0⟩, ?_⟩
    rintro i m σ' H' ⟨rfl, hi2, hl', W', env', S', s2, ok2, sl2, h2⟩
    have hgS := hg0 i env' S' hi2 h2
    by_cases hlt : i < items.length
    · have hd := List.getElem?_eq_getElem hlt
      obtain ⟨go, yl⟩ := jok.step i W' S' H' _ hd s2.vis ok2 hgS
      refine .inr ⟨go, fun σ2 H2 => σ2.length = X.N.length ∧ ∃ W2 env2 S2, Stp W1 S1 H1 W2 S2 H2 ∧ Ok X.K W2 S2 H2 ∧ Sl X.K W2 env2 σ2 ∧ P (i + 1) env2 S2,
        fun σ2 H2 ⟨hl2, h3⟩ => ⟨items.length - (i + 1), by omega, rfl, hlt, hl2, h3⟩, fun x H2 y => ?_⟩
      obtain ⟨W2, s3, ok3, rx⟩ := yl x H2 y
      refine ⟨W2, S', env', items[i], _, ok3, sl2.mono s3.vis, hl', rx, hs0 i _ env' S' hd h2, fun e2 σ3 h3 sl3 hl3 _ => ?_⟩
      have st := s1.trans (s2.trans s3)
      refine ⟨W2, e2, S', _, ok3, sl3, hl3, h3, ?_⟩
      have fin : ∀ {e4 : DE} {S4 : Sto} {σ4 : L2.St} {W4 H4 : Hp}, P (i + 1) e4 S4 → Stp W2 S' H2 W4 S4 H4 → Ok X.K W4 S4 H4 → Sl X.K W4 e4 σ4 → σ4.length = X.N.length →
          (σ4.length = X.N.length ∧ ∃ W2 env2 S2, Stp W1 S1 H1 W2 S2 H4 ∧ Ok X.K W2 S2 H4 ∧ Sl X.K W2 env2 σ4 ∧ P (i + 1) env2 S2) :=
        fun h4 s4 ok4 sl4 hl4 => ⟨hl4, _, _, _, s2.trans (s3.trans s4), ok4, sl4, h4⟩
      exact ⟨fun e4 S4 σ4 W4 H4 h4 s4 ok4 sl4 hl4 => fin h4 s4 ok4 sl4 hl4, (cs.mono st).rt, (cs.mono st).nx, fun e4 S4 σ4 W4 H4 h4 s4 ok4 sl4 hl4 => fin h4 s4 ok4 sl4 hl4, (cs.mono st).xc⟩
    · have e : i = items.length := by omega
      subst e
      exact .inl ⟨jok.stop W' S' H' s2.vis ok2 hgS, cs.nx env' S' σ' W' H' (hd0 _ _ h2) (s1.trans s2) ok2 sl2 hl'⟩⟩
end

/-! ### while -/
def wWhile (t : WPt) (body : WPs) : WPs := fun env S q => ∃ P : Nat → DE → Sto → Prop, (∃ m, P m env S) ∧ ∀ m e S, P m e S →
  t e S (fun b S1 => if b = true then body e S1 { q with nx := fun e2 S2 => ∃ m', m' < m ∧ P m' e2 S2, ct := fun e2 S2 => ∃ m', m' < m ∧ P m' e2 S2, bk := q.nx } else q.nx e S1) (xcQ q e)
theorem pds_while {X : Cx} {c : Expr} {body : List Stmt} {t : WPt} {ws : WPs} {pos : Pos} (hp : PassesOwn (model X.prog X.w) X.A X.env X.xe) (hc : PDt X c t) (hb : PDss X body ws) : PDs X (.While c body [] pos) (wWhile t ws) :=
  ⟨fun Wx tk => PS.imp (ps_while hp (hc.run Wx tk) (hb.run Wx tk)) fun D σ H ⟨W, env, S, q, ok, sl, hl, ⟨P, ⟨m0, h0⟩, hs⟩, cs⟩ => by
    refine ⟨fun m σ' H' => σ'.length = X.N.length ∧ ∃ W' env' S', Stp W S H W' S' H' ∧ Ok X.K W' S' H' ∧ Sl X.K W' env' σ' ∧ P m env' S', ⟨m0, hl, W, env, S, Stp.refl, ok, sl, h0⟩, ?_⟩
    rintro m σ' H' ⟨hl', W', env', S', s1, ok1, sl1, h1⟩
    refine ⟨W', env', S', _, _, ok1, sl1, hs m env' S' h1, fun b S2 W2 H2 h2 s2 ok2 => ?_, CXc.of (cs.mono s1) sl1⟩
    cases b with
    | true =>
      refine iteT ⟨fun σ3 H3 => ∃ m', m' < m ∧ σ3.length = X.N.length ∧ ∃ W' env' S', Stp W S H W' S' H3 ∧ Ok X.K W' S' H3 ∧ Sl X.K W' env' σ3 ∧ P m' env' S', fun σ3 H3 ⟨m', hm, h3⟩ => ⟨m', hm, h3⟩, W2, env', S2, _, ok2, sl1.mono s2.vis, hl', (if_pos rfl).mp h2, ?_⟩
      have st := s1.trans s2
      exact ⟨fun e4 S4 σ4 W4 H4 ⟨m', hm, h4⟩ s4 ok4 sl4 hl4 => ⟨m', hm, hl4, W4, e4, S4, st.trans s4, ok4, sl4, h4⟩, (cs.mono st).rt, (cs.mono st).nx, fun e4 S4 σ4 W4 H4 ⟨m', hm, h4⟩ s4 ok4 sl4 hl4 => ⟨m', hm, hl4, W4, e4, S4, st.trans s4, ok4, sl4, h4⟩, (cs.mono st).xc⟩
    | false => exact iteF (cs.nx env' S2 σ' W2 H2 ((if_neg Bool.false_ne_true).mp h2) (s1.trans s2) ok2 (sl1.mono s2.vis) hl')⟩

/-! ### list comprehensions -/
def wYes : WPt := fun _ S Q _ => Q true S
structure PDts (X : Cx) (ifs : List Expr) (w : WPt) : Prop where
  run : ∀ Wx, Takes X Wx → PTs X ifs (lT X.K Wx w)
theorem pdts_nil {X : Cx} : PDts X [] wYes := ⟨fun Wx tk => ⟨fun pins s σ H Q I ⟨W, env, S, Q0, X1, ok, sl, hw, cv, cx⟩ => pts_nil.run pins s σ H Q I (cv true S W H hw Stp.refl ok)⟩⟩
theorem pdts_one {X : Cx} {c : Expr} {w : WPt} (h : PDt X c w) : PDts X [c] w := ⟨fun Wx tk => pts_one (h.run Wx tk)⟩
def delVs (env : DE) : List Nat → DE
  | [] => env
  | v :: vs => delV (delVs env vs) v
theorem sl_wipe {K : PySem.W.Frag} {W : Hp} {env : DE} {σ : L2.St} (h : Sl K W env σ) : ∀ vs : List Nat, Sl K W (delVs env vs) (wipe σ vs)
  | [] => h
  | v :: vs => fun i d q => by
    obtain ⟨a, b⟩ := getV_delV q
    obtain ⟨u, c, r⟩ := sl_wipe h vs i d b
    refine ⟨u, ?_, r⟩
    show ((wipe σ vs).set v none)[i]? = _
    rw [List.getElem?_set_ne (Ne.symm a)]; exact c
theorem delVs_len {σ : L2.St} {vs : List Nat} {n : Nat} (h : σ.length = n) : (wipe σ vs).length = n := by rw [wipe_length]; exact h
theorem wipe_wipe {σ : L2.St} {vs : List Nat} : wipe (wipe σ vs) vs = wipe σ vs := by
  apply List.ext_getElem?
  intro i
  have key : ∀ {τ : L2.St} {us : List Nat}, (i ∈ us → i < τ.length → (wipe τ us)[i]? = some none) ∧ (i ∉ us → (wipe τ us)[i]? = τ[i]?) := fun {τ us} => by
    induction us with
    | nil => exact ⟨(fun h => by cases h), (fun _ => rfl)⟩
    | cons u us ih =>
      refine ⟨fun h hl => ?_, fun h => ?_⟩
      · show ((wipe τ us).set u none)[i]? = some none
        by_cases e : u = i
        · subst e
          exact List.getElem?_set_self (by rw [wipe_length]; exact hl)
        · rw [List.getElem?_set_ne e]
          exact ih.1 (by cases h with | head => exact absurd rfl e | tail _ h => exact h) hl
      · show ((wipe τ us).set u none)[i]? = _
        rw [List.getElem?_set_ne (fun e => h (by rw [e]; exact List.mem_cons_self))]
        exact ih.2 fun z => h (List.mem_cons_of_mem _ z)
  by_cases h : i ∈ vs
  · by_cases hl : i < σ.length
    · rw [(key (τ := wipe σ vs)).1 h (by rw [wipe_length]; exact hl), (key (τ := σ)).1 h hl]
    · rw [List.getElem?_eq_none (by rw [wipe_length, wipe_length]; omega), List.getElem?_eq_none (by rw [wipe_length]; omega)]
  · rw [(key (τ := wipe σ vs)).2 h]
def compI (t : WPg) (tt : WPt) (te : WPe) (g : Sto → Prop) (env : DE) (items : List D) (S : Sto) (Q : List D → Sto → Prop) : Prop := ∃ P : Nat → List D → Sto → Prop, P 0 [] S ∧ (∀ i acc S, i ≤ items.length → P i acc S → g S) ∧
  (∀ i d acc S, items[i]? = some d → P i acc S → t d env fun e => tt e S (fun b S1 => if b = true then te e S1 (fun y S2 => P (i + 1) (acc ++ [y]) S2) X0 else P (i + 1) acc S1) X0) ∧ ∀ acc S, P items.length acc S → Q acc S
/-- item by item -/
def compL (t : WPg) (tt : WPt) (te : WPe) (g : Sto → Prop) (env : DE) : List D → List D → Sto → (List D → Sto → Prop) → Prop
  | [], acc, S, Q => g S ∧ Q acc S
  | d :: r, acc, S, Q => g S ∧ t d env fun e => tt e S (fun b S1 => if b = true then te e S1 (fun y S2 => compL t tt te g env r (acc ++ [y]) S2 Q) X0 else compL t tt te g env r acc S1 Q) X0
theorem compI_of {t : WPg} {tt : WPt} {te : WPe} {g : Sto → Prop} {env : DE} {items : List D} {S : Sto} {Q : List D → Sto → Prop} (h : compL t tt te g env items [] S Q) : compI t tt te g env items S Q := by
  refine ⟨fun i acc S => compL t tt te g env (items.drop i) acc S Q, h, fun i acc S hi h => ?_, fun i d acc S hd h => ?_, fun acc S h => ?_⟩
  · dsimp only at h
    by_cases hlt : i < items.length
    · rw [List.drop_eq_getElem_cons hlt] at h
      exact h.1
    · rw [List.drop_eq_nil_of_le (by omega)] at h
      exact h.1
  · dsimp only at h
    obtain ⟨hlt, e1⟩ := List.getElem?_eq_some_iff.mp hd
    subst e1
    rw [List.drop_eq_getElem_cons hlt] at h
    exact h.2
  · dsimp only at h
    rw [List.drop_length] at h
    exact h.2
/-- each item's value told by a function -/
theorem compI_map {t : WPg} {tt : WPt} {te : WPe} {g : Sto → Prop} {env : DE} {items : List D} {S : Sto} {Q : List D → Sto → Prop} (f : D → Option D) (hg : g S)
    (h : ∀ d, d ∈ items → ∀ R : Option D → Sto → Prop, R (f d) S → t d env fun e => tt e S (fun b S1 => if b = true then te e S1 (fun y S2 => R (some y) S2) X0 else R none S1) X0) (hq : Q (items.filterMap f) S) : compI t tt te g env items S Q := by
  refine ⟨fun i acc S' => S' = S ∧ acc = (items.take i).filterMap f, ⟨rfl, by simp⟩, fun i acc S' _ h => by rw [h.1]; exact hg, fun i d acc S' hd ⟨e1, e2⟩ => ?_, fun acc S' ⟨e1, e2⟩ => ?_⟩
  · subst e1 e2
    refine h d (List.mem_of_getElem? hd) (fun o S2 => match o with
      | some y => S2 = S' ∧ (items.take i).filterMap f ++ [y] = (items.take (i + 1)).filterMap f
      | none => S2 = S' ∧ (items.take i).filterMap f = (items.take (i + 1)).filterMap f) ?_
    have key : (items.take (i + 1)).filterMap f = (items.take i).filterMap f ++ [d].filterMap f := by
      rw [List.take_add_one, hd]
      simp
    cases e : f d with
    | none =>
      refine ⟨rfl, ?_⟩
      rw [key]
      simp [e]
    | some y =>
      refine ⟨rfl, ?_⟩
      rw [key]
      simp [e]
  · subst e1 e2
    simpa using hq
/-- by an invariant of what is made so far -/
theorem compI_inv {t : WPg} {tt : WPt} {te : WPe} {g : Sto → Prop} {env : DE} {items : List D} {S : Sto} {Q : List D → Sto → Prop} (P : Nat → List D → Sto → Prop) (h0 : P 0 [] S) (hg : ∀ i acc S, P i acc S → g S)
    (hs : ∀ i d acc S, items[i]? = some d → P i acc S → t d env fun e => tt e S (fun b S1 => if b = true then te e S1 (fun y S2 => P (i + 1) (acc ++ [y]) S2) X0 else P (i + 1) acc S1) X0) (hd : ∀ acc S, P items.length acc S → Q acc S) : compI t tt te g env items S Q :=
  ⟨P, h0, fun i acc S _ h => hg i acc S h, hs, hd⟩
def wLc (wi : WPi) (t : WPg) (tt : WPt) (te : WPe) (vs : List Nat) : WPe := fun env S Q X => wi env S (fun items g S1 => items.length ≤ sizeLine ∧ compI t tt te g (delVs env vs) items S1 fun ds S2 => Q (.lst ds) S2) X
/-- .. a new mutable list -/
def wLcM (wi : WPi) (t : WPg) (tt : WPt) (te : WPe) (vs : List Nat) : WPe := fun env S Q X => wi env S (fun items g S1 => items.length ≤ sizeLine ∧ compI t tt te g (delVs env vs) items S1 fun ds S2 => ∀ p, S2 p = none → Q (.ref p) (put S2 p (.lst ds))) X
theorem takesF {X : Cx} {s : Shared} {H : Hp} {scope : Scope} {cenv : Env} {fp : List Addr} : Takes (X.blk s H scope cenv fp) (fun _ _ _ _ => False) := takes0
theorem Stp.see {W W' : Hp} {S S' : Sto} {H H' : Hp} {p : Addr} {o : HO} (st : Stp W S H W' S' H') (h : H p = none) (hW : W' p = none) : Stp W S H (upd W' p o) S' H' :=
  ⟨st.vis.trans (same_new hW), fun a x h1 h2 h3 => by
    have ne : a ≠ p := ne_of_none h1 h
    obtain ⟨y1, y2, y3⟩ := st.frm a x h1 h2 h3
    exact ⟨y1, by rw [upd_ne ne]; exact y2, y3⟩⟩
theorem Stp.see' {W W1 W' : Hp} {S S1 S' : Sto} {H H1 H' : Hp} {p : Addr} {o : HO} (st : Stp W S H W' S' H') (h : H1 p = none) (hW : W' p = none) (s1 : Stp W S H W1 S1 H1) : Stp W S H (upd W' p o) S' H' :=
  ⟨st.vis.trans (same_new hW), fun a x h1 h2 h3 => by
    have ne : a ≠ p := fun e => by
      subst e
      have := (s1.frm a x h1 h2 h3).1
      rw [h] at this; cases this
    obtain ⟨y1, y2, y3⟩ := st.frm a x h1 h2 h3
    exact ⟨y1, by rw [upd_ne ne]; exact y2, y3⟩⟩
theorem Stp.own {W W' : Hp} {S S' : Sto} {H H' : Hp} {p : Addr} {m : MO} (st : Stp W S H W' S' H') (h : H p = none) : Stp W S H W' (put S' p m) H' :=
  ⟨st.vis, fun a x h1 h2 h3 => by
    have ne : a ≠ p := ne_of_none h1 h
    obtain ⟨y1, y2, y3⟩ := st.frm a x h1 h2 h3
    exact ⟨y1, y2, by rw [put_ne ne]; exact y3⟩⟩
theorem Stp.out {W W' : Hp} {S S' : Sto} {H H' : Hp} {p : Addr} {o : HO} (st : Stp W S H W' S' H') (h : H p = none) : Stp W S H W' S' (upd H' p o) :=
  ⟨st.vis, fun a x h1 h2 h3 => by
    have ne : a ≠ p := ne_of_none h1 h
    obtain ⟨y1, y2, y3⟩ := st.frm a x h1 h2 h3
    exact ⟨by rw [upd_ne ne]; exact y1, y2, y3⟩⟩
theorem Ok.out {K : PySem.W.Frag} {W : Hp} {S : Sto} {H : Hp} {p : Addr} {o : HO} (ok : Ok K W S H) (hW : W p = none) (hS : S p = none) : Ok K W S (upd H p o) :=
  ⟨fun b x e => by rw [upd_ne (ne_of_none e hW)]; exact ok.vis _ _ e, fun a m e => by
    obtain ⟨x, e1, e2⟩ := ok.sto _ _ e
    exact ⟨x, by rw [upd_ne (ne_of_S e hS)]; exact e1, e2⟩, ok.sep⟩
theorem Ok.see {K : PySem.W.Frag} {W : Hp} {S : Sto} {H : Hp} {p : Addr} {o : HO} (ok : Ok K W S H) (hW : W p = none) (hS : S p = none) (hH : H p = some o) : Ok K (upd W p o) S H :=
  ⟨fun b x e => by
    by_cases q : b = p
    · subst q; rw [upd_same] at e; cases e; exact hH
    · rw [upd_ne q] at e; exact ok.vis _ _ e, fun a m e => by
    obtain ⟨x, e1, e2⟩ := ok.sto _ _ e
    exact ⟨x, e1, e2.mono (same_new hW)⟩, fun a m e => by
    rw [upd_ne (ne_of_S e hS)]; exact ok.sep _ _ e⟩
theorem Ok.own {K : PySem.W.Frag} {W : Hp} {S : Sto} {H : Hp} {p : Addr} {o : HO} {m : MO} (ok : Ok K W S H) (hW : W p = none) (hH : H p = some o) (r : MRep K W m o) : Ok K W (put S p m) H :=
  ⟨ok.vis, fun a n e => by
    by_cases q : a = p
    · subst q; rw [put_same] at e; cases e; exact ⟨o, hH, r⟩
    · rw [put_ne q] at e; exact ok.sto _ _ e, fun a n e => by
    by_cases q : a = p
    · subst q; exact hW
    · rw [put_ne q] at e; exact ok.sep _ _ e⟩
section
variable {X : Cx} {elt tg iter : Expr} {ifs : List Expr} {scope : Scope} {own : List (Str × Nat)} {pos : Pos} {wi : WPi} {t : WPg} {tt : WPt} {te : WPe}
/-- the made list stands at p, nobody else's -/
theorem lc_go {Wx : WX} {vs : List Nat} {σ : L2.St} {H : Hp} {Q : VK} {K : PySem.W.Frag} {n : Nat} {items : List D} {g : Sto → Prop} {env : DE} {W1 : Hp} {S1 : Sto} {H1 : Hp} {J : It} {Q1 : List D → Sto → Prop} (hl : σ.length = n) (hz : items.length ≤ sizeLine)
    (h : compI t tt te g (delVs env vs) items S1 Q1) (ok1 : Ok K W1 S1 H1) (sl : Sl K W1 env σ) (jok : JOk K J W1 items g)
    (fin : ∀ (p : Addr) acc ws W2 S2 H2, H1 p = none → Q1 acc S2 → Stp W1 S1 H1 W2 S2 H2 → Ok K W2 S2 H2 → W2 p = none → S2 p = none → H2 p = some (.lst ws) → Reps K W2 acc ws → Q (.ref p) H2) :
    ∀ p, H1 p = none → ∃ Wt : Nat → Nat → Hp → Prop, (∃ m, Wt 0 m (upd H1 p (.lst []))) ∧ ∀ i m H, Wt i m H →
      (J.stop i H ∧ Q (.ref p) H) ∨ (J.go i H ∧ ∃ Nx : Hp → Prop, (∀ H', Nx H' → ∃ m', m' < m ∧ Wt (i + 1) m' H') ∧ ∀ x H', J.yld i H x H' → lG K n vs t x (wipe σ vs) H' fun σ2 H2 => wipe σ2 vs = wipe σ vs ∧ lT K (fun _ _ _ _ => False) tt σ2 H2 fun b H3 =>
        if b = true then lE K (fun _ _ _ _ => False) te σ2 H3 fun y H4 => ∃ acc, H4 p = some (.lst acc) ∧ acc.length < sizeLine ∧ Nx (upd H4 p (.lst (acc ++ [y]))) else Nx H3) := by
  intro p hp
  obtain ⟨P, h0, hg, hs, hd⟩ := h
  have hf := ok1.fresh hp
  refine ⟨fun i m H' => m = items.length - i ∧ i ≤ items.length ∧ ∃ W' S' acc ws, Stp W1 S1 H1 W' S' H' ∧ Ok K W' S' H' ∧ W' p = none ∧ S' p = none ∧ H' p = some (.lst ws) ∧ Reps K W' acc ws ∧ acc.length ≤ i ∧ P i acc S',
    ⟨items.length, rfl, Nat.zero_le _, W1, S1, [], [], ok1.stJ hp, ok1.junk hp, hf.1, hf.2, upd_same, rfl, Nat.le_refl _, h0⟩, ?_⟩
  rintro i m H' ⟨rfl, hi, W', S', acc, ws, s2, ok2, hW', hS', hH', rw', hle, h2⟩
  have hgS := hg i acc S' hi h2
  by_cases hlt : i < items.length
  · have hdd := List.getElem?_eq_getElem hlt
    obtain ⟨go, yl⟩ := jok.step i W' S' H' _ hdd s2.vis ok2 hgS
    refine .inr ⟨go, fun H3 => ∃ W' S' acc ws, Stp W1 S1 H1 W' S' H3 ∧ Ok K W' S' H3 ∧ W' p = none ∧ S' p = none ∧ H3 p = some (.lst ws) ∧ Reps K W' acc ws ∧ acc.length ≤ i + 1 ∧ P (i + 1) acc S',
      fun H3 h3 => ⟨items.length - (i + 1), by omega, rfl, hlt, h3⟩, fun x H2 y => ?_⟩
    obtain ⟨W2, s3, ok3, rx⟩ := yl x H2 y
    obtain ⟨k1, k2, k3⟩ := s3.frm p _ hH' hW' hS'
    refine ⟨W2, S', delVs env vs, items[i], _, ok3, sl_wipe (sl.mono (s2.trans s3).vis) vs, delVs_len hl, rx, hs i _ acc S' hdd h2, fun e2 σ3 h3 sl3 hl3 hw3 => ⟨?_, ?_⟩⟩
    · rw [hw3]; exact wipe_wipe
    · refine ⟨W2, e2, S', _, _, ok3, sl3, h3, fun b S4 W4 H4 h4 s4 ok4 => ?_, CXc.no⟩
      obtain ⟨j1, j2, j3⟩ := s4.frm p _ k1 k2 k3
      cases b with
      | true =>
        refine iteT ⟨W4, e2, S4, _, _, ok4, sl3.mono s4.vis, (if_pos rfl).mp h4, fun d S5 v W5 H5 h5 s5 ok5 r5 => ?_, CXc.no⟩
        obtain ⟨l1, l2, l3⟩ := s5.frm p _ j1 j2 j3
        have st := s2.trans (s3.trans (s4.trans s5))
        have rlen := rw'.length
        refine ⟨ws, l1, by omega, W5, S5, acc ++ [d], ws ++ [v], st.out hp, ok5.out l2 l3, l2, l3, upd_same, (rw'.mono (s3.trans (s4.trans s5)).vis).append (Reps.one r5), ?_, h5⟩
        rw [List.length_append, List.length_singleton]; omega
      | false =>
        have st := s2.trans (s3.trans s4)
        exact iteF ⟨W4, S4, acc, ws, st, ok4, j2, j3, j1, rw'.mono (s3.trans s4).vis, by omega, (if_neg Bool.false_ne_true).mp h4⟩
  · have e : i = items.length := by omega
    subst e
    exact .inl ⟨jok.stop W' S' H' s2.vis ok2 hgS, fin p acc ws W' S' H' hp (hd _ _ h2) s2 ok2 hW' hS' hH' rw'⟩
theorem lc_lst {Wx : WX} {vs : List Nat} {σ : L2.St} {H : Hp} {Q : VK} {K : PySem.W.Frag} {n : Nat} (hl : σ.length = n) (h : lE K Wx (wLc wi t tt te vs) σ H Q) :
    tLc (lI K Wx wi) (lG K n vs t) (lT K (fun _ _ _ _ => False) tt) (lE K (fun _ _ _ _ => False) te) vs σ H Q := by
  obtain ⟨W, env, S, Q0, X1, ok, sl, hw, cv, cx⟩ := h
  refine ⟨W, env, S, _, X1, ok, sl, hw, fun items g S1 W1 H1 J ⟨hz, h1⟩ s1 ok1 jok => ?_, cx⟩
  exact lc_go (Wx := Wx) (H := H) hl hz h1 ok1 (sl.mono s1.vis) jok fun p acc ws W2 S2 H2 hp q s2 ok2 a b c r =>
    cv _ S2 _ _ H2 q ((s1.trans s2).see' hp a s1) (ok2.see a b c) ⟨p, ws, rfl, upd_same, r.mono (same_new a)⟩
theorem lc_lstM {Wx : WX} {vs : List Nat} {σ : L2.St} {H : Hp} {Q : VK} {K : PySem.W.Frag} {n : Nat} (hl : σ.length = n) (h : lE K Wx (wLcM wi t tt te vs) σ H Q) :
    tLc (lI K Wx wi) (lG K n vs t) (lT K (fun _ _ _ _ => False) tt) (lE K (fun _ _ _ _ => False) te) vs σ H Q := by
  obtain ⟨W, env, S, Q0, X1, ok, sl, hw, cv, cx⟩ := h
  refine ⟨W, env, S, _, X1, ok, sl, hw, fun items g S1 W1 H1 J ⟨hz, h1⟩ s1 ok1 jok => ?_, cx⟩
  exact lc_go (Wx := Wx) (H := H) hl hz h1 ok1 (sl.mono s1.vis) jok fun p acc ws W2 S2 H2 hp q s2 ok2 a b c r =>
    cv _ _ _ _ H2 (q p b) (s1.trans (s2.own hp)) (ok2.own (m := .lst acc) a c ⟨ws, rfl, r⟩) rfl
variable {pos2 : Pos} {i : Nat} {x : Str}
theorem pd_lcW {w : WPe} (hc : X.calm = true) (hN : X.N.Nodup) (hi : PDi X tg iter wi) (ok : BlkOk X.N X.env.scope scope own)
    (hg : ∀ (s : Shared) (H : Hp) (C : Addr) (cl : List (Str × Addr)) (fp : List Addr), PDg (X.blk s H scope (compEnvC scope cl C X.env) fp) tg (own.map (·.2)) t) (ht : ∀ (s : Shared) (H : Hp) (C : Addr) (cl : List (Str × Addr)) (fp : List Addr), PDts (X.blk s H scope (compEnvC scope cl C X.env) fp) ifs tt)
    (he : ∀ (s : Shared) (H : Hp) (C : Addr) (cl : List (Str × Addr)) (fp : List Addr), PD (X.blk s H scope (compEnvC scope cl C X.env) fp) elt te)
    (hw : ∀ Wx σ H Q, σ.length = X.N.length → lE X.K Wx w σ H Q → tLc (lI X.K Wx wi) (lG X.K X.N.length (own.map (·.2)) t) (lT X.K (fun _ _ _ _ => False) tt) (lE X.K (fun _ _ _ _ => False) te) (own.map (·.2)) σ H Q)
    (hs : ∀ x, foldedSetIterable iter X.env x = pure x := by intro _; rfl) : PD X (.ListComp elt [⟨tg, iter, ifs, 0⟩] scope pos) w :=
  ⟨fun Wx tk => ⟨fun pins s σ H Q I h => (pe_lc hc hN (hi.run Wx tk) ok (fun s H C cl fp => (hg s H C cl fp).run) (fun s H C cl fp => (ht s H C cl fp).run _ takesF) (fun s H C cl fp => (he s H C cl fp).run _ takesF) hs).run pins s σ H Q I (hw Wx σ H Q I.len h)⟩⟩
theorem pd_lc (hc : X.calm = true) (hN : X.N.Nodup) (hi : PDi X tg iter wi) (ok : BlkOk X.N X.env.scope scope own)
    (hg : ∀ (s : Shared) (H : Hp) (C : Addr) (cl : List (Str × Addr)) (fp : List Addr), PDg (X.blk s H scope (compEnvC scope cl C X.env) fp) tg (own.map (·.2)) t) (ht : ∀ (s : Shared) (H : Hp) (C : Addr) (cl : List (Str × Addr)) (fp : List Addr), PDts (X.blk s H scope (compEnvC scope cl C X.env) fp) ifs tt)
    (he : ∀ (s : Shared) (H : Hp) (C : Addr) (cl : List (Str × Addr)) (fp : List Addr), PD (X.blk s H scope (compEnvC scope cl C X.env) fp) elt te)
    (hs : ∀ x, foldedSetIterable iter X.env x = pure x := by intro _; rfl) : PD X (.ListComp elt [⟨tg, iter, ifs, 0⟩] scope pos) (wLc wi t tt te (own.map (·.2))) := pd_lcW hc hN hi ok hg ht he (fun _ _ _ _ hl h => lc_lst hl h) hs
theorem pd_lcM (hc : X.calm = true) (hN : X.N.Nodup) (hi : PDi X tg iter wi) (ok : BlkOk X.N X.env.scope scope own)
    (hg : ∀ (s : Shared) (H : Hp) (C : Addr) (cl : List (Str × Addr)) (fp : List Addr), PDg (X.blk s H scope (compEnvC scope cl C X.env) fp) tg (own.map (·.2)) t) (ht : ∀ (s : Shared) (H : Hp) (C : Addr) (cl : List (Str × Addr)) (fp : List Addr), PDts (X.blk s H scope (compEnvC scope cl C X.env) fp) ifs tt)
    (he : ∀ (s : Shared) (H : Hp) (C : Addr) (cl : List (Str × Addr)) (fp : List Addr), PD (X.blk s H scope (compEnvC scope cl C X.env) fp) elt te)
    (hs : ∀ x, foldedSetIterable iter X.env x = pure x := by intro _; rfl) : PD X (.ListComp elt [⟨tg, iter, ifs, 0⟩] scope pos) (wLcM wi t tt te (own.map (·.2))) := pd_lcW hc hN hi ok hg ht he (fun _ _ _ _ hl h => lc_lstM hl h) hs
/-- x = [..] on one line -/
theorem pds_setLcW {w : WPe} (hc : X.calm = true) (hN : X.N.Nodup) (hy : X.N[i]? = some x) (hyl : X.env.scope.names.lookup x = some .local) {px : Pos}
    (hsw : swapsWith (.ListComp elt [⟨tg, iter, ifs, 0⟩] scope pos) (some (.Name x px)) pos2.line X.env = pure true) (hi : PDi X tg iter wi) (ok : BlkOk X.N X.env.scope scope own)
    (hg : ∀ (s : Shared) (H : Hp) (C : Addr) (cl : List (Str × Addr)) (fp : List Addr), PDg (X.blk s H scope (compEnvC scope cl C X.env) fp) tg (own.map (·.2)) t) (ht : ∀ (s : Shared) (H : Hp) (C : Addr) (cl : List (Str × Addr)) (fp : List Addr), PDts (X.blk s H scope (compEnvC scope cl C X.env) fp) ifs tt)
    (he : ∀ (s : Shared) (H : Hp) (C : Addr) (cl : List (Str × Addr)) (fp : List Addr), PD (X.blk s H scope (compEnvC scope cl C X.env) fp) elt te)
    (hw : ∀ Wx σ H Q, σ.length = X.N.length → lE X.K Wx w σ H Q → tLc (lI X.K Wx wi) (lG X.K X.N.length (own.map (·.2)) t) (lT X.K (fun _ _ _ _ => False) tt) (lE X.K (fun _ _ _ _ => False) te) (own.map (·.2)) σ H Q)
    (hs : ∀ x, foldedSetIterable iter X.env x = pure x := by intro _; rfl) : PDs X (.Assign [.Name x px] (.ListComp elt [⟨tg, iter, ifs, 0⟩] scope pos) pos2) (wSet i w) :=
  ⟨fun Wx tk => PS.imp (ps_setLc hc hN hy hyl hsw (hi.run Wx tk) ok (fun s H C cl fp => (hg s H C cl fp).run) (fun s H C cl fp => (ht s H C cl fp).run _ takesF) (fun s H C cl fp => (he s H C cl fp).run _ takesF) hs) fun D σ H ⟨W, env, S, q, ok, sl, hl, hww, cs⟩ =>
    hw Wx σ H _ hl ⟨W, env, S, _, _, ok, sl, hww, fun d S1 v W1 H1 h1 s1 ok1 r1 => cs.nx _ S1 _ W1 H1 h1 s1 ok1 ((sl.mono s1.vis).set (by rw [hl]; exact lt_of_some hy) r1) (by rw [List.length_set]; exact hl), CXc.of cs sl⟩⟩
theorem pds_setLc (hc : X.calm = true) (hN : X.N.Nodup) (hy : X.N[i]? = some x) (hyl : X.env.scope.names.lookup x = some .local) {px : Pos}
    (hsw : swapsWith (.ListComp elt [⟨tg, iter, ifs, 0⟩] scope pos) (some (.Name x px)) pos2.line X.env = pure true) (hi : PDi X tg iter wi) (ok : BlkOk X.N X.env.scope scope own)
    (hg : ∀ (s : Shared) (H : Hp) (C : Addr) (cl : List (Str × Addr)) (fp : List Addr), PDg (X.blk s H scope (compEnvC scope cl C X.env) fp) tg (own.map (·.2)) t) (ht : ∀ (s : Shared) (H : Hp) (C : Addr) (cl : List (Str × Addr)) (fp : List Addr), PDts (X.blk s H scope (compEnvC scope cl C X.env) fp) ifs tt)
    (he : ∀ (s : Shared) (H : Hp) (C : Addr) (cl : List (Str × Addr)) (fp : List Addr), PD (X.blk s H scope (compEnvC scope cl C X.env) fp) elt te)
    (hs : ∀ x, foldedSetIterable iter X.env x = pure x := by intro _; rfl) : PDs X (.Assign [.Name x px] (.ListComp elt [⟨tg, iter, ifs, 0⟩] scope pos) pos2) (wSet i (wLc wi t tt te (own.map (·.2)))) :=
  pds_setLcW hc hN hy hyl hsw hi ok hg ht he (fun _ _ _ _ hl h => lc_lst hl h) hs
theorem pds_setLcM (hc : X.calm = true) (hN : X.N.Nodup) (hy : X.N[i]? = some x) (hyl : X.env.scope.names.lookup x = some .local) {px : Pos}
    (hsw : swapsWith (.ListComp elt [⟨tg, iter, ifs, 0⟩] scope pos) (some (.Name x px)) pos2.line X.env = pure true) (hi : PDi X tg iter wi) (ok : BlkOk X.N X.env.scope scope own)
    (hg : ∀ (s : Shared) (H : Hp) (C : Addr) (cl : List (Str × Addr)) (fp : List Addr), PDg (X.blk s H scope (compEnvC scope cl C X.env) fp) tg (own.map (·.2)) t) (ht : ∀ (s : Shared) (H : Hp) (C : Addr) (cl : List (Str × Addr)) (fp : List Addr), PDts (X.blk s H scope (compEnvC scope cl C X.env) fp) ifs tt)
    (he : ∀ (s : Shared) (H : Hp) (C : Addr) (cl : List (Str × Addr)) (fp : List Addr), PD (X.blk s H scope (compEnvC scope cl C X.env) fp) elt te)
    (hs : ∀ x, foldedSetIterable iter X.env x = pure x := by intro _; rfl) : PDs X (.Assign [.Name x px] (.ListComp elt [⟨tg, iter, ifs, 0⟩] scope pos) pos2) (wSet i (wLcM wi t tt te (own.map (·.2)))) :=
  pds_setLcW hc hN hy hyl hsw hi ok hg ht he (fun _ _ _ _ hl h => lc_lstM hl h) hs
end
end DL
set_option Elab.async false
set_option linter.all false
set_option maxRecDepth 100000
set_option maxHeartbeats 1000000
/-! The data layer, part h: contracts of defs by name. -/
namespace DL
open PySem PySem.Spec PyProof.Rows L2

def DefAt (K : PySem.W.Frag) (mg : Str → Option Value) (x qual : Str) (st : Stmt) (ps : List Str) : Prop := ∃ f fd, Fun K x qual st f fd ∧ mg x = some (.ref f) ∧ Binds K fd ps []
def MetAt (K : PySem.W.Frag) (C : Addr) (m qual : Str) (st : Stmt) (ps : List Str) : Prop := ∃ f fd, Fun K m qual st f fd ∧ Meth K C m f ∧ Binds K fd ps []
def MkAt (K : PySem.W.Frag) (C : Addr) (qual : Str) (st : Stmt) (ps : List Str) : Prop := ∃ f fd, Fun K "__init__" qual st f fd ∧ Mk K C f ∧ Binds K fd ps []
section
variable (P : Program) (w : World) (K : PySem.W.Frag) (mg : Str → Option Value) (base : Heap)
def FnC (k : Nat) (x : Str) (ps : List Str) (spec : Ctr) : Prop := ∃ f fd, FnD P w K mg base k f fd ps spec ∧ mg x = some (.ref f) ∧ PySem.W.keepIn K (.ref f) = true ∧ Binds K fd ps []
def MtC (C : Addr) (k : Nat) (m : Str) (ps : List Str) (spec : Ctr) : Prop := ∃ f fd, FnD P w K mg base k f fd ps spec ∧ Meth K C m f ∧ Binds K fd ps []
def MkC (C : Addr) (k : Nat) (ps : List Str) (spec : Ctr) : Prop := ∃ f fd, FnD P w K mg base k f fd ps spec ∧ Mk K C f ∧ Binds K fd ps []
end
/-- what a body is to end in -/
def endQ (Q : Qd) (X1 : XQ) : QS := { nx := fun _ S' => Q .non S', rt := Q, bk := fun _ _ => False, ct := fun _ _ => False, xc := fun C fs _ S' => X1 C fs S' }
section
variable {P : Program} {w : World} {K : PySem.W.Frag} {mg : Str → Option Value} {base : Heap} {x qual : Str} {st : Stmt} {N ps : List Str} {k : Nat} {spec : Ctr} {ws : WPs} {C : Addr}
theorem fnd_mk {f : Addr} {fd : FuncData} (F : Fun K x qual st f fd) (S : FnScope N ps (defScope st)) (hle : ps.length ≤ N.length) (len : ∀ ds S Q E, spec ds S Q E → ds.length = ps.length)
    (hd : ∀ (f : Addr) (cdv : Value) (A : Around) (outer : List Env) (s : Shared) (H : Hp) (E : XK), Room k (A.deeper (envOfC qual (defScope st) s.heap.objs.size f cdv)) → PDss (cxOf (L2.CX P w) P w K mg base N qual (defScope st) f cdv A outer s H E) (defBody st) ws)
    (hr : ∀ ds S Q X1, spec ds S Q X1 → ws (startD N ds) S (endQ Q X1)) : FnD P w K mg base (k + 1) f fd ps spec :=
  Fun.okD F S hle len fun cdv A outer s H E hrm => ⟨ws, hd f cdv A outer s H E hrm, hr⟩
theorem FnC.mk (D : DefAt K mg x qual st ps) (S : FnScope N ps (defScope st)) (hle : ps.length ≤ N.length) (len : ∀ ds S Q E, spec ds S Q E → ds.length = ps.length)
    (hd : ∀ (f : Addr) (cdv : Value) (A : Around) (outer : List Env) (s : Shared) (H : Hp) (E : XK), Room k (A.deeper (envOfC qual (defScope st) s.heap.objs.size f cdv)) → PDss (cxOf (L2.CX P w) P w K mg base N qual (defScope st) f cdv A outer s H E) (defBody st) ws)
    (hr : ∀ ds S Q X1, spec ds S Q X1 → ws (startD N ds) S (endQ Q X1)) : FnC P w K mg base (k + 1) x ps spec := by
  obtain ⟨f, fd, F, hm, hb⟩ := D
  exact ⟨f, fd, fnd_mk F S hle len hd hr, hm, F.kp, hb⟩
theorem MtC.mk {m : Str} (D : MetAt K C m qual st ps) (S : FnScope N ps (defScope st)) (hle : ps.length ≤ N.length) (len : ∀ ds S Q E, spec ds S Q E → ds.length = ps.length)
    (hd : ∀ (f : Addr) (cdv : Value) (A : Around) (outer : List Env) (s : Shared) (H : Hp) (E : XK), Room k (A.deeper (envOfC qual (defScope st) s.heap.objs.size f cdv)) → PDss (cxOf (L2.CX P w) P w K mg base N qual (defScope st) f cdv A outer s H E) (defBody st) ws)
    (hr : ∀ ds S Q X1, spec ds S Q X1 → ws (startD N ds) S (endQ Q X1)) : MtC P w K mg base C (k + 1) m ps spec := by
  obtain ⟨f, fd, F, hm, hb⟩ := D
  exact ⟨f, fd, fnd_mk F S hle len hd hr, hm, hb⟩
theorem MkC.mk (D : MkAt K C qual st ps) (S : FnScope N ps (defScope st)) (hle : ps.length ≤ N.length) (len : ∀ ds S Q E, spec ds S Q E → ds.length = ps.length)
    (hd : ∀ (f : Addr) (cdv : Value) (A : Around) (outer : List Env) (s : Shared) (H : Hp) (E : XK), Room k (A.deeper (envOfC qual (defScope st) s.heap.objs.size f cdv)) → PDss (cxOf (L2.CX P w) P w K mg base N qual (defScope st) f cdv A outer s H E) (defBody st) ws)
    (hr : ∀ ds S Q X1, spec ds S Q X1 → ws (startD N ds) S (endQ Q X1)) : MkC P w K mg base C (k + 1) ps spec := by
  obtain ⟨f, fd, F, hm, hb⟩ := D
  exact ⟨f, fd, fnd_mk F S hle len hd hr, hm, hb⟩
/-- a promise for no arguments at all: where a recursion begins -/
theorem FnC.zero (D : DefAt K mg x qual st ps) : FnC P w K mg base k x ps (fun _ _ _ _ => False) := by
  obtain ⟨f, fd, F, hm, hb⟩ := D
  exact ⟨f, fd, ⟨fun vs H Q E ⟨_, _, _, _, _, _, _, h, _⟩ => h.elim, fun A outer s H args us vs Q E _ _ _ _ ⟨_, _, _, _, _, _, _, h, _⟩ => h.elim⟩, hm, F.kp, hb⟩
theorem FnD.imp {f : Addr} {fd : FuncData} {spec' : Ctr} (F : FnD P w K mg base k f fd ps spec) (h : ∀ ds S Q X1, spec' ds S Q X1 → spec ds S Q X1) : FnD P w K mg base k f fd ps spec' :=
  FnOk.imp F fun vs H Q E ⟨W, S, ds, Q0, X1, ok, r, hs, cv, cx⟩ => ⟨W, S, ds, Q0, X1, ok, r, h _ _ _ _ hs, cv, cx⟩
theorem FnC.imp {spec' : Ctr} (F : FnC P w K mg base k x ps spec) (h : ∀ ds S Q X1, spec' ds S Q X1 → spec ds S Q X1) : FnC P w K mg base k x ps spec' := by
  obtain ⟨f, fd, F, a⟩ := F
  exact ⟨f, fd, FnD.imp F h, a⟩
theorem FnC.mono {k' : Nat} (F : FnC P w K mg base k x ps spec) (h : k ≤ k') : FnC P w K mg base k' x ps spec := by
  obtain ⟨f, fd, F, a⟩ := F
  exact ⟨f, fd, FnOk.mono F h, a⟩
end
section
variable {X : Cx} {k : Nat} {C : Addr} {ps : List Str} {spec : Ctr} {x m : Str} {p pos apos : Pos} {e o : Expr} {es : List Expr} {wo : WPe} {wa : WPa}
theorem pd_fn (G : FnC X.prog X.w X.K X.mg X.base k x ps spec) (hr : Room k X.A) (ha : PDa X (e :: es) wa) (hg : Gl X x := by rfl) (hdb : (x == ("__debug__" : Str)) = false := by decide)
    (he : starEach (e :: es) X.env = (false, eval e X.env) :: starEach es X.env := by rfl) (hpl : (backTo pos (starEach es X.env)).any (·.1) = false := by rfl) : PD X (.Call (.Name x p) (e :: es) [] pos) (wCall spec wa) := by
  obtain ⟨f, fd, F, hm, hk, hb⟩ := G
  exact pd_call F hr hm hk hb ha hg hdb he hpl
theorem pd_fn0 (G : FnC X.prog X.w X.K X.mg X.base k x ps spec) (hr : Room k X.A) (hg : Gl X x := by rfl) (hdb : (x == ("__debug__" : Str)) = false := by decide) : PD X (.Call (.Name x p) [] [] pos) (wCall spec wNil) := by
  obtain ⟨f, fd, F, hm, hk, hb⟩ := G
  exact pd_call0 F hr hm hk hb hg hdb
theorem pd_mt {N : List Str} {pl : Sem Bool} (c : Cls X.K C) (G : MtC X.prog X.w X.K X.mg X.base C k m ps spec) (hN : m ∉ N) (hr : Room k X.A) (ho : PD X o wo) (ha : PDa X (e :: es) wa)
    (hst : starEach (e :: es) X.env = (false, eval e X.env) :: starEach es X.env := by rfl) (hpl : (backTo pos (starEach es X.env)).any (·.1) = false := by rfl)
    (ht : eval (.Call (.Attribute o m apos) (e :: es) [] pos) X.env = (do
      let ov ← eval o X.env
      standAt apos.atName
      let (f, first) ← holding [ov] (getMethod ov m pl)
      callWith pos f first (backTo pos (starEach (e :: es) X.env)) (backToKw pos (keywordEach [] X.env))) := by rfl) : PD X (.Call (.Attribute o m apos) (e :: es) [] pos) (wMeth C N spec wo wa) := by
  obtain ⟨f, fd, F, hm, hb⟩ := G
  exact pd_meth c hm hN F hr hb ho ha hst hpl ht
theorem pd_mt0 {N : List Str} {pl : Sem Bool} (c : Cls X.K C) (G : MtC X.prog X.w X.K X.mg X.base C k m ps spec) (hN : m ∉ N) (hr : Room k X.A) (ho : PD X o wo)
    (ht : eval (.Call (.Attribute o m apos) [] [] pos) X.env = (do
      let ov ← eval o X.env
      standAt apos.atName
      let (f, first) ← holding [ov] (getMethod ov m pl)
      callWith pos f first (backTo pos (starEach [] X.env)) (backToKw pos (keywordEach [] X.env))) := by rfl) : PD X (.Call (.Attribute o m apos) [] [] pos) (wMeth C N spec wo wNil) := by
  obtain ⟨f, fd, F, hm, hb⟩ := G
  exact pd_meth0 c hm hN F hr hb ho ht
theorem pd_mk {N : List Str} (G : MkC X.prog X.w X.K X.mg X.base C k ps spec) (hm : X.mg x = some (.ref C)) (hN : N.Nodup) (hl : N.length ≤ 900) (hr : Room (k + 1) X.A) (ha : PDa X (e :: es) wa) (hg : Gl X x := by rfl) (hdb : (x == ("__debug__" : Str)) = false := by decide)
    (he : starEach (e :: es) X.env = (false, eval e X.env) :: starEach es X.env := by rfl) (hpl : (backTo pos (starEach es X.env)).any (·.1) = false := by rfl) : PD X (.Call (.Name x p) (e :: es) [] pos) (wMake C N spec wa) := by
  obtain ⟨f, fd, F, M, hb⟩ := G
  exact pd_make M hN hl F hr hm hb ha hg hdb he hpl
end
end DL
set_option Elab.async false
set_option linter.all false
set_option maxRecDepth 100000
set_option maxHeartbeats 1000000
/-! The data layer, part i: forms of data, their equality; words that reduce a reading. -/
namespace DL
open PySem PySem.Spec PyProof.Rows L2

/-! ### data of a depth -/
def okP (n : Nat) (p : PyData) : Prop := p.canLay0 = true ∧ p.depth ≤ n
theorem okP_int {n : Nat} {i : Int} : okP n (.int i) := ⟨rfl, Nat.zero_le _⟩
theorem okP_bool {n : Nat} {i : Bool} : okP n (.bool i) := ⟨rfl, Nat.zero_le _⟩
theorem okP_none {n : Nat} : okP n .none := ⟨rfl, Nat.zero_le _⟩
theorem okP_all {n : Nat} : ∀ {xs : List D}, (∀ x, x ∈ xs → okP n (toP x)) → PyData.canLayAll0 (toPs xs) = true ∧ PyData.depthAll (toPs xs) ≤ n
  | [], _ => ⟨rfl, Nat.zero_le _⟩
  | x :: r, h => by
    obtain ⟨a, b⟩ := h x List.mem_cons_self
    obtain ⟨c, d⟩ := okP_all (xs := r) fun y hy => h y (List.mem_cons_of_mem _ hy)
    refine ⟨?_, ?_⟩
    · show (PyData.canLay0 (toP x) && PyData.canLayAll0 (toPs r)) = true
      rw [a, c]; rfl
    · show max (PyData.depth (toP x)) (PyData.depthAll (toPs r)) ≤ n
      exact Nat.max_le.mpr ⟨b, d⟩
theorem okP_lst {n : Nat} {xs : List D} (h : ∀ x, x ∈ xs → okP n (toP x)) : okP (n + 1) (toP (.lst xs)) := ⟨(okP_all h).1, Nat.succ_le_succ (okP_all h).2⟩
theorem okP_tup {n : Nat} {xs : List D} (h : ∀ x, x ∈ xs → okP n (toP x)) : okP (n + 1) (toP (.tup xs)) := ⟨(okP_all h).1, Nat.succ_le_succ (okP_all h).2⟩
theorem okP_mono {n m : Nat} {p : PyData} (h : okP n p) (e : n ≤ m) : okP m p := ⟨h.1, Nat.le_trans h.2 e⟩
theorem shaped_of {n : Nat} {p : PyData} (h : okP n p) (e : n ≤ 64) : SeqAt.shaped p = true := by
  unfold SeqAt.shaped
  rw [h.1, decide_eq_true (Nat.le_trans h.2 e)]; rfl
theorem eqvAll_map {α : Type} [DecidableEq α] {f : α → D} (hf : ∀ a b, PyData.eqv (toP (f a)) (toP (f b)) = decide (a = b)) : ∀ xs ys : List α, PyData.eqvAll (toPs (xs.map f)) (toPs (ys.map f)) = decide (xs = ys)
  | [], [] => by simp [toPs, PyData.eqvAll]
  | [], _ :: _ => by simp [toPs, PyData.eqvAll]
  | _ :: _, [] => by simp [toPs, PyData.eqvAll]
  | a :: r, b :: s => by
    show (PyData.eqv (toP (f a)) (toP (f b)) && PyData.eqvAll (toPs (r.map f)) (toPs (s.map f))) = _
    rw [hf, eqvAll_map hf r s]
    by_cases h1 : a = b <;> by_cases h2 : r = s <;> simp [h1, h2]
/-! ### rows of ints -/
def dL (xs : List Int) : D := .lst (xs.map D.int)
def dT (xs : List Int) : D := .tup (xs.map D.int)
/-- a row of ints as a tuple (true) or a list -/
def dR (k : Bool) (xs : List Int) : D := if k = true then dT xs else dL xs
/-- rows as a tuple or a list of tuples or lists -/
def rows (k j : Bool) (xs : List (List Int)) : D := if k = true then .tup (xs.map (dR j)) else .lst (xs.map (dR j))
theorem eqv_int (a b : Int) : PyData.eqv (toP (.int a)) (toP (.int b)) = decide (a = b) := by
  show (a == b) = _
  rw [Bool.beq_eq_decide_eq]
theorem eqv_dL (a b : List Int) : PyData.eqv (toP (dL a)) (toP (dL b)) = decide (a = b) := eqvAll_map eqv_int a b
theorem eqv_dT (a b : List Int) : PyData.eqv (toP (dT a)) (toP (dT b)) = decide (a = b) := eqvAll_map eqv_int a b
theorem okP_ints {xs : List Int} : ∀ x, x ∈ xs.map D.int → okP 0 (toP x) := fun x h => by
  obtain ⟨i, _, rfl⟩ := List.mem_map.mp h
  exact okP_int
theorem okP_dL {xs : List Int} : okP 1 (toP (dL xs)) := okP_lst okP_ints
theorem okP_dT {xs : List Int} : okP 1 (toP (dT xs)) := okP_tup okP_ints
theorem seqA_dR {S : Sto} {k : Bool} {xs : List Int} : seqA S (dR k xs) = some (xs.map D.int) := by cases k <;> rfl
theorem seqA_rows {S : Sto} {k j : Bool} {xs : List (List Int)} : seqA S (rows k j xs) = some (xs.map (dR j)) := by cases k <;> rfl
section
variable {S : Sto} {a b : List Int} {i j : Int} {p q : Bool}
theorem shD_int : shD S (.int i) = true := rfl
theorem shD_bl : shD S (.bl p) = true := rfl
theorem shD_non : shD S .non = true := rfl
theorem shD_dL : shD S (dL a) = true := shaped_of okP_dL (by decide)
theorem shD_dT : shD S (dT a) = true := shaped_of okP_dT (by decide)
theorem shD_lst : shD S (.lst (a.map D.int)) = true := shaped_of okP_dL (by decide)
theorem shD_tup : shD S (.tup (a.map D.int)) = true := shaped_of okP_dT (by decide)
theorem eqD_int : eqD S (.int i) (.int j) = decide (i = j) := eqv_int i j
theorem eqD_bl : eqD S (.bl p) (.bl q) = (p == q) := rfl
theorem eqD_dL : eqD S (dL a) (dL b) = decide (a = b) := eqv_dL a b
theorem eqD_dT : eqD S (dT a) (dT b) = decide (a = b) := eqv_dT a b
theorem eqD_lst : eqD S (.lst (a.map D.int)) (.lst (b.map D.int)) = decide (a = b) := eqv_dL a b
theorem eqD_tup : eqD S (.tup (a.map D.int)) (.tup (b.map D.int)) = decide (a = b) := eqv_dT a b
end
/-! ### slices of rows of ints -/
def cutI (xs : List Int) (lo hi : Option Int) : List Int := (xs.drop (HT.sIx xs.length 0 lo)).take (HT.sIx xs.length xs.length hi - HT.sIx xs.length 0 lo)
theorem cutD_int {xs : List Int} {lo hi : Option Int} : cutD (xs.map D.int) lo hi = (cutI xs lo hi).map D.int := by
  unfold cutD cutI
  rw [List.length_map, List.map_take, List.map_drop]
theorem sIx_pos {n d : Nat} {i : Int} (h : 0 ≤ i) : HT.sIx n d (some i) = min i.toNat n := by
  obtain ⟨k, rfl⟩ := Int.eq_ofNat_of_zero_le h
  rw [HT.sIx_nat]
  simp
theorem cutI_from {xs : List Int} {i : Int} (h : 0 ≤ i) : cutI xs (some i) none = xs.drop i.toNat := by
  unfold cutI
  rw [sIx_pos h, HT.sIx_none]
  by_cases q : i.toNat ≤ xs.length
  · rw [Nat.min_eq_left q, List.take_of_length_le]
    rw [List.length_drop]; exact Nat.le_refl _
  · rw [Nat.min_eq_right (by omega), List.drop_length, List.drop_eq_nil_of_le (by omega), List.take_nil]
theorem cutI_to {xs : List Int} {i : Int} (h : 0 ≤ i) : cutI xs none (some i) = xs.take i.toNat := by
  unfold cutI
  rw [sIx_pos h, HT.sIx_none, List.drop_zero, Nat.sub_zero]
  by_cases q : i.toNat ≤ xs.length
  · rw [Nat.min_eq_left q]
  · rw [Nat.min_eq_right (by omega), List.take_length, List.take_of_length_le (by omega)]
theorem cutI_both {xs : List Int} {i j : Int} (h : 0 ≤ i) (h2 : 0 ≤ j) : cutI xs (some i) (some j) = (xs.drop i.toNat).take (j.toNat - i.toNat) := by
  unfold cutI
  rw [sIx_pos h, sIx_pos h2]
  generalize i.toNat = a
  generalize j.toNat = b
  by_cases q : a ≤ xs.length
  · rw [Nat.min_eq_left q]
    by_cases q2 : b ≤ xs.length
    · rw [Nat.min_eq_left q2]
    · rw [Nat.min_eq_right (Nat.le_of_not_le q2), List.take_of_length_le (by rw [List.length_drop]; exact Nat.le_refl _), List.take_of_length_le (by rw [List.length_drop]; omega)]
  · rw [Nat.min_eq_right (Nat.le_of_not_le q), List.drop_length, List.drop_eq_nil_of_le (by omega), List.take_nil, List.take_nil]
end DL
set_option Elab.async false
set_option linter.all false
set_option maxRecDepth 100000
set_option maxHeartbeats 1000000
/-! The data layer, part j: the law's own head. -/
namespace DL
open PySem PySem.Spec PyProof.Rows L2
theorem cx_no {P : Program} {w : World} {o : List Env} {H : Hp} {s s' : Shared} {e : Value} (h : L2.CX P w o H s (fun _ _ _ => False) e s') : False := by
  obtain ⟨_, _, _, _, _, _, _, _, _, _, _, _, h⟩ := h
  exact h
/-- what is asked of the law: true, whatever else it leaves -/
def spScript : Ctr := fun ds S Q _ => ∃ cells : List Int, ds = [.fro (cells.map D.int)] ∧ cells.length ≤ 63 ∧ ∀ S', Q (.bl true) S'
theorem spScript_at {K : PySem.W.Frag} {H : Hp} {a : Addr} {ns : List Int} {E : XK} (hl : ns.length ≤ 63) (hS : SqL K H a (ns.map V.int)) : lSp K spScript [.ref a] H (fun v _ => v = .bl true) E :=
  ⟨H, fun _ => none, [.fro (ns.map D.int)], fun d _ => d = .bl true, X0, ⟨Same.refl H, (fun _ _ h => nomatch h), (fun _ _ h => nomatch h)⟩, ⟨_, _, rfl, ⟨a, _, rfl, hS, reps_ints⟩, rfl⟩, ⟨ns, rfl, hl, fun _ => rfl⟩,
    fun d S' v W' H' h _ _ r => by subst h; exact r, CXc.no⟩
end DL
set_option Elab.async false
set_option linter.all false
set_option maxRecDepth 100000
set_option maxHeartbeats 4000000
namespace K90
open PySem PySem.Spec PyProof.Rows L2 DL
structure Cl where
  Stopper : Addr
def N_Stopper : List Str := ["stops", "held", "many", "is_stopped"]
/-! ### what the program's functions compute -/
/-- s ends the text -/
def endsAt (s text : List Int) : Prop := s.length ≤ text.length ∧ text.drop (text.length - s.length) = s
instance (s text : List Int) : Decidable (endsAt s text) := by unfold endsAt; infer_instance
/-- m letters that end the text begin s, which is longer -/
def begins (s text : List Int) (m : Nat) : Prop := 1 ≤ m ∧ m < s.length ∧ m ≤ text.length ∧ text.drop (text.length - m) = s.take m
instance (s text : List Int) (m : Nat) : Decidable (begins s text m) := by unfold begins; infer_instance
def stopF (stops : List (List Int)) (text : List Int) : Nat := stops.foldl (fun m s => if m < s.length ∧ endsAt s text then s.length else m) 0
/-- the greatest of 1 .. n - 1 with p, m if none is greater -/
def heldF (stops : List (List Int)) (text : List Int) : Nat := stops.foldl (fun m s => (List.range s.length).foldl (fun m k => if m < k ∧ begins s text k then k else m) m) 0
/-! ### the Stopper -/
structure Stp3 where
  stops : List (List Int)
  held : List Int
  many : Int
  stop : Bool
def stMO (c : Cl) (s : Stp3) : MO := .ins c.Stopper N_Stopper [some (.tup (s.stops.map dT)), some (dT s.held), some (.int s.many), some (.bl s.stop)]
def feedF (s : Stp3) (l : Int) : List Int × Stp3 :=
  if s.stop = true then ([], s) else
    let text := s.held ++ [l]
    let taken := stopF s.stops text
    if 0 < taken then (text.take (text.length - taken), { s with stop := true, held := [], many := s.many + ((text.length : Int) - (taken : Int)) })
    else
      let keep := heldF s.stops text
      (text.take (text.length - keep), { s with held := text.drop (text.length - keep), many := s.many + ((text.length : Int) - (keep : Int)) })
/-! ### the hand of draws -/
structure Hand where
  cells : List Int
  at_ : Int
  big : Int
  seed : Int
def HandOk (h : Hand) : Prop := h.cells.length ≤ 63 ∧ 0 ≤ h.at_ ∧ 0 ≤ h.big ∧ 0 ≤ h.seed ∧ h.seed < 2305843009213693951
def handMO (h : Hand) : MO := .lst [dL h.cells, .int h.at_, .int h.big, .int h.seed]
def IsHand (S : Sto) (p : Addr) : Prop := ∃ h, HandOk h ∧ S p = some (handMO h)
/-- whatever is drawn -/
def drawn (p : Addr) (S : Sto) (Q : Sto → Prop) : Prop := ∀ h, HandOk h → Q (put S p (handMO h))
/-! ### contracts -/
def sp_stop_length (c : Cl) : Ctr := fun ds S Q _ => ∃ stops text, ds = [.tup (stops.map dT), dT text] ∧ Q (.int (stopF stops text : Nat)) S
def sp_held_back (c : Cl) : Ctr := fun ds S Q _ => ∃ k j i stops text, ds = [rows k j stops, dR i text] ∧ text.length < 100000 ∧ (∀ s, s ∈ stops → s.length < 100000) ∧ Q (.int (heldF stops text : Nat)) S
/-- a list or a tuple of rows of ints, however held -/
def Rows (S : Sto) (d : D) (stops : List (List Int)) : Prop := ∃ es, seqA S d = some es ∧ es.length = stops.length ∧ ∀ (i : Nat) e s, es[i]? = some e → stops[i]? = some s → seqA S e = some (s.map D.int)
def sp_Stopper_init (c : Cl) : Ctr := fun ds S Q _ => ∃ a d stops, ds = [.ref a, d] ∧ S a = some (.ins c.Stopper N_Stopper (noneV N_Stopper)) ∧ (Rows S d stops ∧ stops.length ≤ 1000) ∧ Q .non (put S a (stMO c ⟨stops, [], 0, false⟩))
def sp_Stopper_has_stopped (c : Cl) : Ctr := fun ds S Q _ => ∃ a s, ds = [.ref a] ∧ S a = some (stMO c s) ∧ Q (.bl s.stop) S
def sp_Stopper_letters_held (c : Cl) : Ctr := fun ds S Q _ => ∃ a s, ds = [.ref a] ∧ S a = some (stMO c s) ∧ Q (dT s.held) S
def sp_Stopper_feed (c : Cl) : Ctr := fun ds S Q _ => ∃ a s l, ds = [.ref a, .int l] ∧ S a = some (stMO c s) ∧ (s.held.length ≤ 1000 ∧ ∀ t, t ∈ s.stops → t.length ≤ 1000) ∧ Q (dT (feedF s l).1) (put S a (stMO c (feedF s l).2))
def sp__law_hand (c : Cl) : Ctr := fun ds S Q _ => ∃ cells : List Int, ds = [.fro (cells.map D.int)] ∧ cells.length ≤ 63 ∧ ∀ p, S p = none → Q (.ref p) (put S p (handMO ⟨cells, 0, 0, 1311768467⟩))
def sp__law_draw (c : Cl) : Ctr := fun ds S Q _ => ∃ p n, ds = [.ref p, .int n] ∧ IsHand S p ∧ (0 < n ∧ n ≤ 100000) ∧ ∀ r, 0 ≤ r → r < n → drawn p S (Q (.int r))
/-- plain data of a depth: None, bools, ints, tuples -/
def plain : Nat → D → Prop
  | _, .non => True
  | _, .bl _ => True
  | _, .int _ => True
  | 0, .tup _ => False
  | n + 1, .tup xs => xs.length ≤ 1000 ∧ ∀ x, x ∈ xs → plain n x
  | _, _ => False
def sp__law_same_n (c : Cl) (n : Nat) : Ctr := fun ds S Q _ => match n with
  | 0 => False
  | n + 1 => ∃ d, ds = [d, d] ∧ plain n d ∧ Q (.bl true) S
def sp__law_same (c : Cl) : Ctr := fun ds S Q _ => ∃ d, ds = [d, d] ∧ plain 7 d ∧ Q (.bl true) S
/-- the ends: rows of ints -/
def dRows (xs : List (List Int)) : D := .lst (xs.map dL)
def sp__law_stopped (c : Cl) : Ctr := fun ds S Q _ => ∃ stops t text, ds = [dRows stops, t] ∧ seqL S t = some (text.map D.int) ∧ Q (.int (stopF stops text : Nat)) S
def sp__law_held (c : Cl) : Ctr := fun ds S Q _ => ∃ stops t text, ds = [dRows stops, t] ∧ seqL S t = some (text.map D.int) ∧ (∀ s, s ∈ stops → s.length < 100000) ∧ Q (.int (heldF stops text : Nat)) S
def sp__law_alphabet (c : Cl) : Ctr := fun ds S Q _ => ∃ p, ds = [.ref p] ∧ IsHand S p ∧ ∀ r : List Int, r ≠ [] → r.length ≤ 3 → drawn p S (Q (dL r))
def sp__law_row (c : Cl) : Ctr := fun ds S Q _ => ∃ p al l m, ds = [.ref p, dL al, .int l, .int m] ∧ IsHand S p ∧ (al ≠ [] ∧ al.length ≤ 1000) ∧ (1 ≤ l ∧ l ≤ 10 ∧ 0 ≤ m ∧ m ≤ 10) ∧ ∀ r : List Int, r ≠ [] → r.length ≤ 20 → drawn p S (Q (dL r))
/-- ends as the law draws them: none is empty, none longer than 4 -/
def EndsOk (xs : List (List Int)) : Prop := xs.length ≤ 10 ∧ ∀ s, s ∈ xs → s ≠ [] ∧ s.length ≤ 4
def sp__law_ends (c : Cl) : Ctr := fun ds S Q _ => ∃ p al m, ds = [.ref p, dL al, .int m] ∧ IsHand S p ∧ (al ≠ [] ∧ al.length ≤ 1000) ∧ (0 ≤ m ∧ m ≤ 9) ∧ ∀ xs, EndsOk xs → drawn p S (Q (dRows xs))
def sp__law_near (c : Cl) : Ctr := fun ds S Q _ => ∃ p xs al m, ds = [.ref p, dRows xs, dL al, .int m] ∧ IsHand S p ∧ EndsOk xs ∧ (al ≠ [] ∧ al.length ≤ 1000) ∧ (0 ≤ m ∧ m ≤ 100) ∧ ∀ r : List Int, (r.length : Int) = m → drawn p S (Q (dL r))
def sp__law_long (c : Cl) : Ctr := fun ds S Q _ => ∃ p al, ds = [.ref p, dL al] ∧ IsHand S p ∧ (al ≠ [] ∧ al.length ≤ 1000) ∧ ∀ xs, EndsOk xs → drawn p S (Q (dRows xs))
/-- the Stopper at a, the text at t and the law's state at u tell the same of the ends xs -/
structure Goes (c : Cl) (S : Sto) (a t u : Addr) (xs : List (List Int)) (text : List Int) : Prop where
  at_ : t ≠ a ∧ u ≠ a ∧ t ≠ u
  tx : S t = some (.lst (text.map D.int))
  is : ∃ s sent stop, S a = some (stMO c s) ∧ S u = some (.lst [.int sent, .bl stop]) ∧ s.stops = xs ∧ s.stop = stop ∧ (stop = true → s.held = [] ∧ 0 ≤ sent) ∧
    (stop = false → sent = (text.length : Int) - (heldF xs text : Nat) ∧ s.held = text.drop (text.length - heldF xs text))
def sp__law_looked (c : Cl) : Ctr := fun ds S Q _ => ∃ a t u xs text, ds = [.ref a, dRows xs, .ref t, .ref u] ∧ Goes c S a t u xs text ∧ (EndsOk xs ∧ text.length ≤ 500) ∧ Q (.bl true) S
def sp__law_read_on (c : Cl) : Ctr := fun ds S Q _ => ∃ a t u xs text l, ds = [.ref a, dRows xs, .ref t, .ref u, .int l] ∧ Goes c S a t u xs text ∧ (EndsOk xs ∧ text.length ≤ 500) ∧
  ∀ S', Goes c S' a t u xs (text ++ [l]) → (∀ b, b ≠ a → b ≠ t → b ≠ u → S' b = S b) → Q (.bl true) S'
def sp__law_closing (c : Cl) : Ctr := fun ds S Q _ => ds = [] ∧ ∀ S', Q (.bl true) S'
def sp_law (c : Cl) : Ctr := fun ds S Q _ => ∃ cells : List Int, ds = [.fro (cells.map D.int)] ∧ cells.length ≤ 63 ∧ ∀ S', Q (.bl true) S'
end K90
set_option Elab.async false
set_option linter.all false
set_option maxRecDepth 100000
set_option maxHeartbeats 4000000
namespace K90
open PySem PySem.Spec PyProof.Rows L2 DL
def N_stop_length_ : List Str := ["stops", "text", "most", "stop"]
/-- stop_length: slots 0 stops, 1 text, 2 most, 3 stop, -/
def w_stop_length (c : Cl) : WPs := (wSeq (wSet 2 (wC (.int 0)))
  (wSeq (wFor (wIt (wVar 0)) (gN 3) (wIf (wAnd (wTest (wChain oLt oLe (wVar 2) (wCB oLen (wCons (wVar 3) wNil)) (wCB oLen (wCons (wVar 1) wNil)))) (wTest (wBin oEq (wSl (wVar 1) (wP (wBin oSub (wCB oLen (wCons (wVar 1) wNil)) (wCB oLen (wCons (wVar 3) wNil)))) wNoP) (wVar 3)))) (wSet 2 (wCB oLen (wCons (wVar 3) wNil))) wNext))
  (wRet (wVar 2))))
def N_held_back_ : List Str := ["stops", "text", "most", "stop", "length"]
/-- held_back: slots 0 stops, 1 text, 2 most, 3 stop, 4 length, -/
def w_held_back (c : Cl) : WPs := (wSeq (wSet 1 (wCB oTuple (wCons (wVar 1) wNil)))
  (wSeq (wSet 2 (wC (.int 0)))
  (wSeq (wFor (wIt (wVar 0)) (gN 3) (wFor (wRg2 (wC (.int 1)) (wCB oMin2 (wCons (wCB oLen (wCons (wVar 3) wNil)) (wCons (wBin oAdd (wCB oLen (wCons (wVar 1) wNil)) (wC (.int 1))) wNil)))) (gN 4) (wIf (wAnd (wTest (wBin oGt (wVar 4) (wVar 2))) (wTest (wBin oEq (wSl (wVar 1) (wP (wBin oSub (wCB oLen (wCons (wVar 1) wNil)) (wVar 4))) wNoP) (wCB oTuple (wCons (wSl (wVar 3) wNoP (wP (wVar 4))) wNil))))) (wSet 2 (wVar 4)) wNext)))
  (wRet (wVar 2)))))
def N_Stopper_init_ : List Str := ["self", "stops", "stop"]
/-- Stopper.__init__: slots 0 self, 1 stops, 2 stop, -/
def w_Stopper_init (c : Cl) : WPs := (wSeq (wSetF c.Stopper N_Stopper 0 (wVar 0) (wCB oTuple (wCons (wLc (wIt (wVar 1)) (gN 2) wYes (wCB oTuple (wCons (wVar 2) wNil)) [2]) wNil)))
  (wSeq (wSetF c.Stopper N_Stopper 1 (wVar 0) (wTup wNil))
  (wSeq (wSetF c.Stopper N_Stopper 2 (wVar 0) (wC (.int 0)))
  (wSetF c.Stopper N_Stopper 3 (wVar 0) (wC (.bl false))))))
def N_Stopper_has_stopped_ : List Str := ["self"]
/-- Stopper.has_stopped: slots 0 self, -/
def w_Stopper_has_stopped (c : Cl) : WPs := (wRet (wFld c.Stopper N_Stopper 3 (wVar 0)))
def N_Stopper_letters_held_ : List Str := ["self"]
/-- Stopper.letters_held: slots 0 self, -/
def w_Stopper_letters_held (c : Cl) : WPs := (wRet (wFld c.Stopper N_Stopper 1 (wVar 0)))
def N_Stopper_feed_ : List Str := ["self", "letter", "text", "taken", "keep"]
/-- Stopper.feed: slots 0 self, 1 letter, 2 text, 3 taken, 4 keep, -/
def w_Stopper_feed (c : Cl) : WPs := (wSeq (wIf (wTest (wFld c.Stopper N_Stopper 3 (wVar 0))) (wRet (wTup wNil)) wNext)
  (wSeq (wSet 2 (wBin oAdd (wFld c.Stopper N_Stopper 1 (wVar 0)) (wTup (wCons (wVar 1) wNil))))
  (wSeq (wSet 3 (wCall (sp_stop_length c) (wCons (wFld c.Stopper N_Stopper 0 (wVar 0)) (wCons (wVar 2) wNil))))
  (wSeq (wIf (wTest (wBin oGt (wVar 3) (wC (.int 0)))) (wSeq (wSetF c.Stopper N_Stopper 3 (wVar 0) (wC (.bl true)))
  (wSeq (wSetF c.Stopper N_Stopper 1 (wVar 0) (wTup wNil))
  (wSeq (wAugF c.Stopper N_Stopper 2 (oI0 fun i j => .int (i + j)) (wVar 0) (wBin oSub (wCB oLen (wCons (wVar 2) wNil)) (wVar 3)))
  (wRet (wSl (wVar 2) wNoP (wP (wBin oSub (wCB oLen (wCons (wVar 2) wNil)) (wVar 3)))))))) wNext)
  (wSeq (wSet 4 (wCall (sp_held_back c) (wCons (wFld c.Stopper N_Stopper 0 (wVar 0)) (wCons (wVar 2) wNil))))
  (wSeq (wSetF c.Stopper N_Stopper 1 (wVar 0) (wSl (wVar 2) (wP (wBin oSub (wCB oLen (wCons (wVar 2) wNil)) (wVar 4))) wNoP))
  (wSeq (wAugF c.Stopper N_Stopper 2 (oI0 fun i j => .int (i + j)) (wVar 0) (wBin oSub (wCB oLen (wCons (wVar 2) wNil)) (wVar 4)))
  (wRet (wSl (wVar 2) wNoP (wP (wBin oSub (wCB oLen (wCons (wVar 2) wNil)) (wVar 4))))))))))))
def N__law_hand_ : List Str := ["script", "cell"]
/-- _law_hand: slots 0 script, 1 cell, -/
def w__law_hand (c : Cl) : WPs := (wRet (wLstM (wCons (wLc (wIt (wSl (wVar 0) wNoP (wP (wC (.int 63))))) (gN 1) wYes (wCB oInt (wCons (wVar 1) wNil)) [1]) (wCons (wC (.int 0)) (wCons (wC (.int 0)) (wCons (wC (.int 1311768467)) wNil))))))
def N__law_draw_ : List Str := ["hand", "many", "cell", "told"]
/-- _law_draw: slots 0 hand, 1 many, 2 cell, 3 told, -/
def w__law_draw (c : Cl) : WPs := (wSeq (wIf (wAnd (wTest (wBin oEq (wBin oIx (wVar 0) (wC (.int 2))) (wC (.int 0)))) (wTest (wBin oLt (wBin oIx (wVar 0) (wC (.int 1))) (wCB oLen (wCons (wBin oIx (wVar 0) (wC (.int 0))) wNil))))) (wSeq (wSet 2 (wBin oIx (wBin oIx (wVar 0) (wC (.int 0))) (wBin oIx (wVar 0) (wC (.int 1)))))
  (wSeq (wSetI (wVar 0) (wC (.int 1)) (wBin oAdd (wBin oIx (wVar 0) (wC (.int 1))) (wC (.int 1))))
  (wSeq (wIf (wTest (wBin oGe (wVar 2) (wBin oPow (wC (.int 10)) (wC (.int 18))))) (wSetI (wVar 0) (wC (.int 2)) (wBin oMod (wCB oInt (wCons (wVar 2) wNil)) (wBin oMul (wBin oPow (wC (.int 10)) (wC (.int 60))) (wBin oPow (wC (.int 10)) (wC (.int 60)))))) wNext)
  (wSetI (wVar 0) (wC (.int 3)) (wBin oMod (wBin oAdd (wBin oAdd (wBin oMul (wBin oIx (wVar 0) (wC (.int 3))) (wBin oIx (wVar 0) (wC (.int 3)))) (wBin oMod (wCB oInt (wCons (wVar 2) wNil)) (wC (.int 2305843009213693951)))) (wBin oIx (wVar 0) (wC (.int 1)))) (wC (.int 2305843009213693951))))))) wNext)
  (wSeq (wIf (wTest (wBin oGt (wBin oIx (wVar 0) (wC (.int 2))) (wC (.int 0)))) (wSeq (wSet 3 (wBin oMod (wCB oInt (wCons (wBin oIx (wVar 0) (wC (.int 2))) wNil)) (wVar 1)))
  (wSeq (wSetI (wVar 0) (wC (.int 2)) (wBin oDiv (wBin oIx (wVar 0) (wC (.int 2))) (wVar 1)))
  (wRet (wVar 3)))) wNext)
  (wSeq (wSetI (wVar 0) (wC (.int 3)) (wBin oMod (wBin oAdd (wBin oMul (wBin oIx (wVar 0) (wC (.int 3))) (wBin oIx (wVar 0) (wC (.int 3)))) (wC (.int 362436069))) (wC (.int 2305843009213693951))))
  (wRet (wBin oMod (wBin oDiv (wCB oInt (wCons (wBin oIx (wVar 0) (wC (.int 3))) wNil)) (wC (.int 1048576))) (wVar 1))))))
def N__law_same_ : List Str := ["told", "due", "k"]
/-- _law_same: slots 0 told, 1 due, 2 k, -/
def w__law_same (c : Cl) (n : Nat) : WPs := (wSeq (wIf (wTest (wIsi "tuple" (wVar 1))) (wSeq (wIf (wOr (wNot (wTest (wIsi "tuple" (wVar 0)))) (wTest (wBin oNe (wCB oLen (wCons (wVar 0) wNil)) (wCB oLen (wCons (wVar 1) wNil))))) (wRet (wC (.bl false))) wNext)
  (wRet (wCB oAll (wCons (wLc (wRg1 (wCB oLen (wCons (wVar 1) wNil))) (gN 2) wYes (wCall (sp__law_same_n c n) (wCons (wBin oIx (wVar 0) (wVar 2)) (wCons (wBin oIx (wVar 1) (wVar 2)) wNil))) [2]) wNil)))) wNext)
  (wSeq (wIf (wTest (wBin oIsN (wVar 1) (wC .non))) (wRet (wBin oIsN (wVar 0) (wC .non))) wNext)
  (wSeq (wIf (wTest (wIsi "bool" (wVar 1))) (wRet (wAndV (wIsi "bool" (wVar 0)) (wBin oEq (wVar 0) (wVar 1)))) wNext)
  (wSeq (wIf (wTest (wIsi "str" (wVar 1))) (wRet (wAndV (wIsi "str" (wVar 0)) (wBin oEq (wVar 0) (wVar 1)))) wNext)
  (wRet (wAndV (wIsi "int" (wVar 0)) (wAndV (wNotV (wIsi "bool" (wVar 0))) (wBin oEq (wVar 0) (wVar 1)))))))))
def N__law_stopped_ : List Str := ["ends", "text", "best", "end"]
/-- _law_stopped: slots 0 ends, 1 text, 2 best, 3 end, -/
def w__law_stopped (c : Cl) : WPs := (wSeq (wSet 2 (wC (.int 0)))
  (wSeq (wFor (wIt (wVar 0)) (gN 3) (wIf (wAnd (wTest (wBin oLe (wCB oLen (wCons (wVar 3) wNil)) (wCB oLen (wCons (wVar 1) wNil)))) (wTest (wBin oEq (wCB oList (wCons (wVar 3) wNil)) (wCB oList (wCons (wSl (wVar 1) (wP (wBin oSub (wCB oLen (wCons (wVar 1) wNil)) (wCB oLen (wCons (wVar 3) wNil)))) wNoP) wNil))))) (wSet 2 (wCB oMax2 (wCons (wVar 2) (wCons (wCB oLen (wCons (wVar 3) wNil)) wNil)))) wNext))
  (wRet (wVar 2))))
def N__law_held_ : List Str := ["ends", "text", "best", "end", "many"]
/-- _law_held: slots 0 ends, 1 text, 2 best, 3 end, 4 many, -/
def w__law_held (c : Cl) : WPs := (wSeq (wSet 2 (wC (.int 0)))
  (wSeq (wFor (wIt (wVar 0)) (gN 3) (wFor (wRg2 (wC (.int 1)) (wCB oLen (wCons (wVar 3) wNil))) (gN 4) (wIf (wAnd (wTest (wBin oLe (wVar 4) (wCB oLen (wCons (wVar 1) wNil)))) (wTest (wBin oEq (wCB oList (wCons (wSl (wVar 3) wNoP (wP (wVar 4))) wNil)) (wCB oList (wCons (wSl (wVar 1) (wP (wBin oSub (wCB oLen (wCons (wVar 1) wNil)) (wVar 4))) wNoP) wNil))))) (wSet 2 (wCB oMax2 (wCons (wVar 2) (wCons (wVar 4) wNil)))) wNext)))
  (wRet (wVar 2))))
def N__law_alphabet_ : List Str := ["hand", "base", "stride", "k"]
/-- _law_alphabet: slots 0 hand, 1 base, 2 stride, 3 k, -/
def w__law_alphabet (c : Cl) : WPs := (wSeq (wSet 1 (wCall (sp__law_draw c) (wCons (wVar 0) (wCons (wC (.int 12)) wNil))))
  (wSeq (wSet 2 (wBin oIx (wTup (wCons (wC (.int 1)) (wCons (wC (.int 5)) (wCons (wC (.int 7)) (wCons (wC (.int 11)) wNil))))) (wCall (sp__law_draw c) (wCons (wVar 0) (wCons (wC (.int 4)) wNil)))))
  (wRet (wLc (wRg1 (wBin oAdd (wC (.int 1)) (wCall (sp__law_draw c) (wCons (wVar 0) (wCons (wC (.int 3)) wNil))))) (gN 3) wYes (wBin oMod (wCB oInt (wCons (wBin oAdd (wVar 1) (wBin oMul (wVar 3) (wVar 2))) wNil)) (wC (.int 12))) [3]))))
def N__law_row_ : List Str := ["hand", "alphabet", "least", "more", "k"]
/-- _law_row: slots 0 hand, 1 alphabet, 2 least, 3 more, 4 k, -/
def w__law_row (c : Cl) : WPs := (wRet (wLc (wRg1 (wBin oAdd (wVar 2) (wCall (sp__law_draw c) (wCons (wVar 0) (wCons (wBin oAdd (wVar 3) (wC (.int 1))) wNil))))) (gN 4) wYes (wBin oIx (wVar 1) (wCall (sp__law_draw c) (wCons (wVar 0) (wCons (wCB oLen (wCons (wVar 1) wNil)) wNil)))) [4]))
def N__law_ends_ : List Str := ["hand", "alphabet", "most", "ends", "k", "end", "way", "elder"]
/-- _law_ends: slots 0 hand, 1 alphabet, 2 most, 3 ends, 4 k, 5 end, 6 way, 7 elder, -/
def w__law_ends (c : Cl) : WPs := (wSeq (wSet 3 (wLstM wNil))
  (wSeq (wFor (wRg1 (wCall (sp__law_draw c) (wCons (wVar 0) (wCons (wBin oAdd (wVar 2) (wC (.int 1))) wNil)))) (gN 4) (wSeq (wSet 5 (wCall (sp__law_row c) (wCons (wVar 0) (wCons (wVar 1) (wCons (wC (.int 1)) (wCons (wC (.int 3)) wNil))))))
  (wSeq (wSet 6 (wCall (sp__law_draw c) (wCons (wVar 0) (wCons (wC (.int 6)) wNil))))
  (wSeq (wIf (wTest (wBin oGt (wCB oLen (wCons (wVar 3) wNil)) (wC (.int 0)))) (wSeq (wSet 7 (wBin oIx (wVar 3) (wCall (sp__law_draw c) (wCons (wVar 0) (wCons (wCB oLen (wCons (wVar 3) wNil)) wNil)))))
  (wIf (wTest (wBin oEq (wVar 6) (wC (.int 1)))) (wSet 5 (wBin oAdd (wVar 7) (wVar 5))) (wIf (wTest (wBin oEq (wVar 6) (wC (.int 2)))) (wSet 5 (wBin oAdd (wBin oAdd (wSl (wVar 5) wNoP (wP (wC (.int 1)))) (wVar 7)) (wSl (wVar 5) (wP (wC (.int 1))) wNoP))) (wIf (wTest (wBin oEq (wVar 6) (wC (.int 3)))) (wSet 5 (wSl (wVar 7) (wP (wCall (sp__law_draw c) (wCons (wVar 0) (wCons (wCB oLen (wCons (wVar 7) wNil)) wNil)))) wNoP)) (wIf (wTest (wBin oEq (wVar 6) (wC (.int 4)))) (wSet 5 (wBin oAdd (wSl (wVar 7) wNoP (wP (wUn oNeg (wC (.int 1))))) (wSl (wVar 5) wNoP (wP (wC (.int 1)))))) wNext))))) wNext)
  (wDrop (wMt oAppend (wVar 3) (wCons (wSl (wVar 5) wNoP (wP (wC (.int 4)))) wNil)))))))
  (wRet (wFrz (wVar 3)))))
def N__law_near_ : List Str := ["hand", "ends", "alphabet", "many", "text", "k", "held", "begun", "on", "letter", "way", "end"]
/-- _law_near: slots 0 hand, 1 ends, 2 alphabet, 3 many, 4 text, 5 k, 6 held, 7 begun, 8 on, 9 letter, 10 way, 11 end, -/
def w__law_near (c : Cl) : WPs := (wSeq (wSet 4 (wLstM wNil))
  (wSeq (wFor (wRg1 (wVar 3)) (gN 5) (wSeq (wSet 6 (wCall (sp__law_held c) (wCons (wVar 1) (wCons (wVar 4) wNil))))
  (wSeq (wSet 7 (wSl (wVar 4) (wP (wBin oSub (wCB oLen (wCons (wVar 4) wNil)) (wVar 6))) wNoP))
  (wSeq (wSet 8 (wLc (wIt (wVar 1)) (gN 11) (wAnd (wTest (wBin oGt (wCB oLen (wCons (wVar 11) wNil)) (wVar 6))) (wTest (wBin oEq (wSl (wVar 11) wNoP (wP (wVar 6))) (wVar 7)))) (wBin oIx (wVar 11) (wVar 6)) [11]))
  (wSeq (wSet 9 (wBin oIx (wVar 2) (wCall (sp__law_draw c) (wCons (wVar 0) (wCons (wCB oLen (wCons (wVar 2) wNil)) wNil)))))
  (wSeq (wSet 10 (wCall (sp__law_draw c) (wCons (wVar 0) (wCons (wC (.int 8)) wNil))))
  (wSeq (wIf (wTest (wBin oEq (wVar 10) (wC (.int 0)))) (wSet 9 (wCall (sp__law_draw c) (wCons (wVar 0) (wCons (wC (.int 12)) wNil)))) (wIf (wAnd (wTest (wBin oGt (wVar 10) (wC (.int 2)))) (wTest (wBin oGt (wCB oLen (wCons (wVar 8) wNil)) (wC (.int 0))))) (wSet 9 (wBin oIx (wVar 8) (wCall (sp__law_draw c) (wCons (wVar 0) (wCons (wCB oLen (wCons (wVar 8) wNil)) wNil))))) wNext))
  (wDrop (wMt oAppend (wVar 4) (wCons (wVar 9) wNil))))))))))
  (wRet (wFrz (wVar 4)))))
def N__law_long_ : List Str := ["hand", "alphabet", "ends", "k", "end", "elder"]
/-- _law_long: slots 0 hand, 1 alphabet, 2 ends, 3 k, 4 end, 5 elder, -/
def w__law_long (c : Cl) : WPs := (wSeq (wSet 2 (wLstM wNil))
  (wSeq (wFor (wRg1 (wCall (sp__law_draw c) (wCons (wVar 0) (wCons (wC (.int 6)) wNil)))) (gN 3) (wSeq (wSet 4 (wCall (sp__law_row c) (wCons (wVar 0) (wCons (wVar 1) (wCons (wC (.int 3)) (wCons (wC (.int 1)) wNil))))))
  (wSeq (wIf (wAnd (wTest (wBin oGt (wCB oLen (wCons (wVar 2) wNil)) (wC (.int 0)))) (wTest (wBin oEq (wCall (sp__law_draw c) (wCons (wVar 0) (wCons (wC (.int 2)) wNil))) (wC (.int 0))))) (wSeq (wSet 5 (wBin oIx (wVar 2) (wCall (sp__law_draw c) (wCons (wVar 0) (wCons (wCB oLen (wCons (wVar 2) wNil)) wNil)))))
  (wSet 4 (wBin oAdd (wSl (wVar 5) (wP (wC (.int 1))) wNoP) (wSl (wVar 4) wNoP (wP (wC (.int 2))))))) wNext)
  (wDrop (wMt oAppend (wVar 2) (wCons (wSl (wVar 4) wNoP (wP (wC (.int 4)))) wNil))))))
  (wRet (wFrz (wVar 2)))))
def N__law_looked_ : List Str := ["stopper", "ends", "text", "state", "left", "few", "due", "handed", "end"]
/-- _law_looked: slots 0 stopper, 1 ends, 2 text, 3 state, 4 left, 5 few, 6 due, 7 handed, 8 end, -/
def w__law_looked (c : Cl) : WPs := (wSeq (wSet 4 (wIfE (wTest (wBin oIx (wVar 3) (wC (.int 1)))) (wTup wNil) (wCB oTuple (wCons (wSl (wVar 2) (wP (wBin oIx (wVar 3) (wC (.int 0)))) wNoP) wNil))))
  (wSeq (wIf (wOr (wNot (wTest (wCall (sp__law_same c) (wCons (wMeth c.Stopper N_Stopper (sp_Stopper_has_stopped c) (wVar 0) wNil) (wCons (wBin oIx (wVar 3) (wC (.int 1))) wNil))))) (wNot (wTest (wCall (sp__law_same c) (wCons (wMeth c.Stopper N_Stopper (sp_Stopper_letters_held c) (wVar 0) wNil) (wCons (wVar 4) wNil)))))) (wRet (wC (.bl false))) wNext)
  (wSeq (wIf (wTest (wBin oIx (wVar 3) (wC (.int 1)))) (wRet (wC (.bl true))) wNext)
  (wSeq (wSet 5 (wSl (wVar 1) wNoP (wP (wC (.int 4)))))
  (wSeq (wSet 6 (wCall (sp__law_held c) (wCons (wVar 5) (wCons (wVar 2) wNil))))
  (wSeq (wSet 7 (wLc (wIt (wVar 5)) (gN 8) wYes (wCB oList (wCons (wVar 8) wNil)) [8]))
  (wSeq (wIf (wOr (wNot (wTest (wCall (sp__law_same c) (wCons (wCall (sp_held_back c) (wCons (wVar 7) (wCons (wCB oTuple (wCons (wVar 2) wNil)) wNil))) (wCons (wVar 6) wNil))))) (wTest (wBin oNe (wVar 7) (wVar 5)))) (wRet (wC (.bl false))) wNext)
  (wRet (wCall (sp__law_same c) (wCons (wCall (sp_held_back c) (wCons (wCB oTuple (wCons (wLc (wIt (wVar 5)) (gN 8) wYes (wCB oTuple (wCons (wVar 8) wNil)) [8]) wNil)) (wCons (wCB oList (wCons (wVar 2) wNil)) wNil))) (wCons (wVar 6) wNil)))))))))))
def N__law_read_on_ : List Str := ["stopper", "ends", "text", "state", "letter", "due", "cut", "total"]
/-- _law_read_on: slots 0 stopper, 1 ends, 2 text, 3 state, 4 letter, 5 due, 6 cut, 7 total, -/
def w__law_read_on (c : Cl) : WPs := (wSeq (wDrop (wMt oAppend (wVar 2) (wCons (wVar 4) wNil)))
  (wSeq (wSet 5 (wTup wNil))
  (wSeq (wIf (wNot (wTest (wBin oIx (wVar 3) (wC (.int 1))))) (wSeq (wSet 6 (wCall (sp__law_stopped c) (wCons (wVar 1) (wCons (wVar 2) wNil))))
  (wSeq (wSetI (wVar 3) (wC (.int 1)) (wBin oGt (wVar 6) (wC (.int 0))))
  (wSeq (wSet 7 (wBin oSub (wCB oLen (wCons (wVar 2) wNil)) (wIfE (wTest (wBin oIx (wVar 3) (wC (.int 1)))) (wVar 6) (wCall (sp__law_held c) (wCons (wVar 1) (wCons (wVar 2) wNil))))))
  (wSeq (wSet 5 (wCB oTuple (wCons (wSl (wVar 2) (wP (wBin oIx (wVar 3) (wC (.int 0)))) (wP (wVar 7))) wNil)))
  (wSetI (wVar 3) (wC (.int 0)) (wVar 7)))))) wNext)
  (wRet (wCall (sp__law_same c) (wCons (wMeth c.Stopper N_Stopper (sp_Stopper_feed c) (wVar 0) (wCons (wVar 4) wNil)) (wCons (wVar 5) wNil)))))))
def N__law_closing_ : List Str := ["stopper", "told", "letter", "due"]
/-- _law_closing: slots 0 stopper, 1 told, 2 letter, 3 due, -/
def w__law_closing (c : Cl) : WPs := (wSeq (wSet 0 (wMake c.Stopper N_Stopper (sp_Stopper_init c) (wCons (wLst (wCons (wLst (wCons (wC (.int 1)) (wCons (wC (.int 1)) (wCons (wC (.int 2)) (wCons (wC (.int 1)) wNil))))) (wCons (wLst (wCons (wC (.int 1)) (wCons (wC (.int 2)) (wCons (wC (.int 2)) wNil)))) (wCons (wTup (wCons (wC (.int 2)) (wCons (wC (.int 2)) wNil))) wNil)))) wNil)))
  (wSeq (wSet 1 (wLstM (wCons (wMeth c.Stopper N_Stopper (sp_Stopper_letters_held c) (wVar 0) wNil) (wCons (wMeth c.Stopper N_Stopper (sp_Stopper_has_stopped c) (wVar 0) wNil) wNil))))
  (wSeq (wFor (wIt (wTup (wCons (wC (.int 1)) (wCons (wC (.int 1)) (wCons (wC (.int 1)) (wCons (wC (.int 2)) (wCons (wC (.int 0)) (wCons (wC (.int 1)) (wCons (wC (.int 1)) (wCons (wC (.int 2)) wNil)))))))))) (gN 2) (wDrop (wMt oAppend (wVar 1) (wCons (wMeth c.Stopper N_Stopper (sp_Stopper_feed c) (wVar 0) (wCons (wVar 2) wNil)) wNil))))
  (wSeq (wDrop (wMt oAppend (wVar 1) (wCons (wMeth c.Stopper N_Stopper (sp_Stopper_letters_held c) (wVar 0) wNil) wNil)))
  (wSeq (wFor (wIt (wTup (wCons (wC (.int 2)) (wCons (wC (.int 2)) (wCons (wC (.int 3)) wNil))))) (gN 2) (wDrop (wMt oAppend (wVar 1) (wCons (wMeth c.Stopper N_Stopper (sp_Stopper_feed c) (wVar 0) (wCons (wVar 2) wNil)) wNil))))
  (wSeq (wDrop (wMt oExtend (wVar 1) (wCons (wLst (wCons (wMeth c.Stopper N_Stopper (sp_Stopper_has_stopped c) (wVar 0) wNil) (wCons (wMeth c.Stopper N_Stopper (sp_Stopper_letters_held c) (wVar 0) wNil) (wCons (wCall (sp_held_back c) (wCons (wTup (wCons (wTup (wCons (wC (.int 1)) (wCons (wC (.int 1)) (wCons (wC (.int 2)) (wCons (wC (.int 1)) wNil))))) (wCons (wTup (wCons (wC (.int 1)) (wCons (wC (.int 2)) (wCons (wC (.int 2)) wNil)))) wNil))) (wCons (wTup (wCons (wC (.int 1)) (wCons (wC (.int 1)) (wCons (wC (.int 2)) wNil)))) wNil))) wNil)))) wNil)))
  (wSeq (wSet 3 (wLstM (wCons (wTup wNil) (wCons (wC (.bl false)) (wCons (wTup wNil) (wCons (wTup wNil) (wCons (wTup (wCons (wC (.int 1)) wNil)) (wCons (wTup wNil) (wCons (wTup (wCons (wC (.int 1)) (wCons (wC (.int 1)) (wCons (wC (.int 2)) (wCons (wC (.int 0)) wNil))))) (wCons (wTup wNil) (wCons (wTup wNil) (wCons (wTup wNil) (wCons (wTup (wCons (wC (.int 1)) (wCons (wC (.int 1)) (wCons (wC (.int 2)) wNil)))) wNil)))))))))))))
  (wSeq (wDrop (wMt oExtend (wVar 3) (wCons (wLst (wCons (wTup (wCons (wC (.int 1)) wNil)) (wCons (wTup wNil) (wCons (wTup wNil) (wCons (wC (.bl true)) (wCons (wTup wNil) (wCons (wC (.int 3)) wNil))))))) wNil)))
  (wRet (wCall (sp__law_same c) (wCons (wCB oTuple (wCons (wVar 1) wNil)) (wCons (wCB oTuple (wCons (wVar 3) wNil)) wNil))))))))))))
def N_law_ : List Str := ["script", "hand", "lists", "alphabet", "alphabet_too", "letters", "handed", "stoppers", "ends", "texts", "states", "turn", "who", "letter", "end"]
/-- law: slots 0 script, 1 hand, 2 lists, 3 alphabet, 4 alphabet_too, 5 letters, 6 handed, 7 stoppers, 8 ends, 9 texts, 10 states, 11 turn, 12 who, 13 letter, 14 end, -/
def w_law (c : Cl) : WPs := (wSeq (wSet 1 (wCall (sp__law_hand c) (wCons (wVar 0) wNil)))
  (wSeq (wSet 2 (wLstM wNil))
  (wSeq (wSet 3 (wCall (sp__law_alphabet c) (wCons (wVar 1) wNil)))
  (wSeq (wDrop (wMt oAppend (wVar 2) (wCons (wCall (sp__law_ends c) (wCons (wVar 1) (wCons (wVar 3) (wCons (wC (.int 6)) wNil)))) wNil)))
  (wSeq (wSet 4 (wCall (sp__law_alphabet c) (wCons (wVar 1) wNil)))
  (wSeq (wDrop (wMt oAppend (wVar 2) (wCons (wCall (sp__law_long c) (wCons (wVar 1) (wCons (wVar 4) wNil))) wNil)))
  (wSeq (wSet 5 (wLstM (wCons (wCall (sp__law_near c) (wCons (wVar 1) (wCons (wBin oIx (wVar 2) (wC (.int 0))) (wCons (wVar 3) (wCons (wBin oAdd (wC (.int 4)) (wCall (sp__law_draw c) (wCons (wVar 1) (wCons (wC (.int 20)) wNil)))) wNil))))) wNil)))
  (wSeq (wDrop (wMt oAppend (wVar 5) (wCons (wCall (sp__law_near c) (wCons (wVar 1) (wCons (wBin oIx (wVar 2) (wC (.int 1))) (wCons (wVar 4) (wCons (wBin oAdd (wC (.int 5)) (wCall (sp__law_draw c) (wCons (wVar 1) (wCons (wC (.int 41)) wNil)))) wNil))))) wNil)))
  (wSeq (wSet 6 (wLc (wIt (wVar 2)) (gN 8) wYes (wLcM (wIt (wVar 8)) (gN 14) wYes (wCB oListM (wCons (wVar 14) wNil)) [14]) [8]))
  (wSeq (wSet 7 (wLc (wIt (wVar 6)) (gN 8) wYes (wMake c.Stopper N_Stopper (sp_Stopper_init c) (wCons (wVar 8) wNil)) [8]))
  (wSeq (wFor (wIt (wVar 6)) (gN 8) (wSeq (wDrop (wMt oAppend (wVar 8) (wCons (wLstM (wCons (wC (.int 0)) wNil)) wNil)))
  (wDrop (wMt oAppend (wBin oIx (wVar 8) (wC (.int 0))) (wCons (wC (.int 0)) wNil)))))
  (wSeq (wSet 9 (wLst (wCons (wLstM wNil) (wCons (wLstM wNil) wNil))))
  (wSeq (wSet 10 (wLst (wCons (wLstM (wCons (wC (.int 0)) (wCons (wC (.bl false)) wNil))) (wCons (wLstM (wCons (wC (.int 0)) (wCons (wC (.bl false)) wNil))) wNil))))
  (wSeq (wIf (wNot (wTest (wCall (sp__law_looked c) (wCons (wBin oIx (wVar 7) (wC (.int 0))) (wCons (wBin oIx (wVar 2) (wC (.int 0))) (wCons (wBin oIx (wVar 9) (wC (.int 0))) (wCons (wBin oIx (wVar 10) (wC (.int 0))) wNil))))))) (wRet (wC (.bl false))) wNext)
  (wSeq (wFor (wRg1 (wC (.int 90))) (gN 11) (wSeq (wSet 12 (wCall (sp__law_draw c) (wCons (wVar 1) (wCons (wC (.int 2)) wNil))))
  (wSeq (wIf (wTest (wBin oEq (wCB oLen (wCons (wBin oIx (wVar 9) (wVar 12)) wNil)) (wCB oLen (wCons (wBin oIx (wVar 5) (wVar 12)) wNil)))) (wSet 12 (wBin oSub (wC (.int 1)) (wVar 12))) wNext)
  (wSeq (wIf (wTest (wBin oEq (wCB oLen (wCons (wBin oIx (wVar 9) (wVar 12)) wNil)) (wCB oLen (wCons (wBin oIx (wVar 5) (wVar 12)) wNil)))) wBreak wNext)
  (wSeq (wSet 13 (wBin oIx (wBin oIx (wVar 5) (wVar 12)) (wCB oLen (wCons (wBin oIx (wVar 9) (wVar 12)) wNil))))
  (wSeq (wIf (wNot (wTest (wCall (sp__law_read_on c) (wCons (wBin oIx (wVar 7) (wVar 12)) (wCons (wBin oIx (wVar 2) (wVar 12)) (wCons (wBin oIx (wVar 9) (wVar 12)) (wCons (wBin oIx (wVar 10) (wVar 12)) (wCons (wVar 13) wNil)))))))) (wRet (wC (.bl false))) wNext)
  (wSeq (wSet 12 (wCall (sp__law_draw c) (wCons (wVar 1) (wCons (wC (.int 2)) wNil))))
  (wIf (wAnd (wTest (wBin oEq (wCall (sp__law_draw c) (wCons (wVar 1) (wCons (wC (.int 4)) wNil))) (wC (.int 0)))) (wNot (wTest (wCall (sp__law_looked c) (wCons (wBin oIx (wVar 7) (wVar 12)) (wCons (wBin oIx (wVar 2) (wVar 12)) (wCons (wBin oIx (wVar 9) (wVar 12)) (wCons (wBin oIx (wVar 10) (wVar 12)) wNil)))))))) (wRet (wC (.bl false))) wNext))))))))
  (wSeq (wFor (wRg1 (wC (.int 2))) (gN 12) (wIf (wOr (wTest (wBin oNe (wBin oIx (wVar 9) (wVar 12)) (wBin oIx (wVar 5) (wVar 12)))) (wNot (wTest (wCall (sp__law_looked c) (wCons (wBin oIx (wVar 7) (wVar 12)) (wCons (wBin oIx (wVar 2) (wVar 12)) (wCons (wBin oIx (wVar 9) (wVar 12)) (wCons (wBin oIx (wVar 10) (wVar 12)) wNil)))))))) (wRet (wC (.bl false))) wNext))
  (wRet (wCall (sp__law_closing c) wNil))))))))))))))))))
end K90
set_option Elab.async false
set_option linter.all false
set_option maxRecDepth 100000
set_option maxHeartbeats 1000000
namespace K90
open PySem PySem.Spec PyProof.Rows L2 DL
/-! ### the plain law -/
/-- m is the greatest with P, 0 where none has it -/
def Best (P : Nat → Prop) (m : Nat) : Prop := (m = 0 ∨ P m) ∧ ∀ k, P k → k ≤ m
theorem Best.uniq {P : Nat → Prop} {m n : Nat} (a : Best P m) (b : Best P n) : m = n := by
  rcases a.1 with h | h <;> rcases b.1 with g | g
  · omega
  · have := a.2 _ g; omega
  · have := b.2 _ h; omega
  · have := a.2 _ g; have := b.2 _ h; omega
theorem Best.iff {P R : Nat → Prop} {m : Nat} (a : Best P m) (h : ∀ k, 0 < k → (P k ↔ R k)) : Best R m := by
  refine ⟨?_, fun k hk => ?_⟩
  · rcases a.1 with q | q
    · exact .inl q
    · by_cases z : m = 0
      · exact .inl z
      · exact .inr ((h m (by omega)).mp q)
  · by_cases z : k = 0
    · omega
    · exact a.2 k ((h k (by omega)).mpr hk)
theorem best0 {P : Nat → Prop} (h : ∀ k, 0 < k → ¬ P k) : Best P 0 := ⟨.inl rfl, fun k hk => by
  by_cases z : k = 0
  · omega
  · exact absurd hk (h k (by omega))⟩
theorem Best.yes {P R : Nat → Prop} {m n : Nat} (a : Best P m) (hb : m < n ∧ R n) (h1 : ∀ k, 0 < k → R k → P k ∨ k = n) : Best R n := by
  refine ⟨.inr hb.2, fun k hk => ?_⟩
  by_cases z : k = 0
  · omega
  · rcases h1 k (by omega) hk with q | q
    · have := a.2 k q; omega
    · omega
theorem Best.no {P R : Nat → Prop} {m n : Nat} (a : Best P m) (hb : ¬ (m < n ∧ R n)) (h1 : ∀ k, 0 < k → R k → P k ∨ k = n) (h2 : ∀ k, P k → R k) : Best R m := by
  refine ⟨?_, fun k hk => ?_⟩
  · rcases a.1 with q | q
    · exact .inl q
    · exact .inr (h2 m q)
  · by_cases z : k = 0
    · omega
    · rcases h1 k (by omega) hk with q | q
      · exact a.2 k q
      · subst q
        by_cases z : m < k
        · exact absurd ⟨z, hk⟩ hb
        · omega
theorem Best.max {P R : Nat → Prop} {m n : Nat} (a : Best P m) (hb : R n) (h1 : ∀ k, 0 < k → R k → P k ∨ k = n) (h2 : ∀ k, P k → R k) : Best R (max m n) := by
  by_cases z : m < n
  · rw [Nat.max_eq_right (by omega)]
    exact a.yes ⟨z, hb⟩ h1
  · rw [Nat.max_eq_left (by omega)]
    exact a.no (fun q => z q.1) h1 h2
/-- the lengths of the ends that end the text -/
def SP (stops : List (List Int)) (text : List Int) (k : Nat) : Prop := ∃ s, s ∈ stops ∧ s.length = k ∧ endsAt s text
def HP (stops : List (List Int)) (text : List Int) (k : Nat) : Prop := ∃ s, s ∈ stops ∧ begins s text k
theorem mem_take {α : Type} {xs : List α} {i : Nat} {x y : α} (h : xs[i]? = some x) : y ∈ xs.take (i + 1) ↔ y ∈ xs.take i ∨ y = x := by
  rw [List.take_add_one, h]; simp
theorem SP_take {stops : List (List Int)} {text : List Int} {i : Nat} {s : List Int} (h : stops[i]? = some s) (k : Nat) : SP (stops.take (i + 1)) text k ↔ SP (stops.take i) text k ∨ (k = s.length ∧ endsAt s text) := by
  constructor
  · rintro ⟨t, ht, e, q⟩
    rcases (mem_take h).mp ht with r | r
    · exact .inl ⟨t, r, e, q⟩
    · subst r; exact .inr ⟨e.symm, q⟩
  · rintro (⟨t, ht, e, q⟩ | ⟨e, q⟩)
    · exact ⟨t, (mem_take h).mpr (.inl ht), e, q⟩
    · exact ⟨s, (mem_take h).mpr (.inr rfl), e.symm, q⟩
theorem foldl_inv {α β : Type} (P : Nat → β → Prop) (f : β → α → β) : ∀ (xs ys : List α) (b : β) (h0 : P ys.length b) (hs : ∀ i x b, (ys ++ xs)[i]? = some x → P i b → P (i + 1) (f b x)), P (ys.length + xs.length) (xs.foldl f b)
  | [], ys, b, h0, hs => h0
  | x :: r, ys, b, h0, hs => by
    have := foldl_inv P f r (ys ++ [x]) (f b x) (by
      rw [List.length_append, List.length_singleton]
      exact hs ys.length x b (by simp) h0) (fun i y c hy hc => hs i y c (by simpa using hy) hc)
    have e : ys.length + (x :: r).length = (ys ++ [x]).length + r.length := by simp; omega
    rw [e]
    exact this
theorem foldl_inv0 {α β : Type} (P : Nat → β → Prop) (f : β → α → β) {xs : List α} {b : β} (h0 : P 0 b) (hs : ∀ i x b, xs[i]? = some x → P i b → P (i + 1) (f b x)) : P xs.length (xs.foldl f b) := by
  have := foldl_inv P f xs [] b h0 hs
  simpa using this
theorem best_stopF (stops : List (List Int)) (text : List Int) : Best (SP stops text) (stopF stops text) := by
  have := foldl_inv0 (fun i m => Best (SP (stops.take i) text) m) (fun m s => if m < s.length ∧ endsAt s text then s.length else m) (xs := stops) (b := 0)
    (best0 fun k _ ⟨s, h, _⟩ => by simp at h) (fun i s m hi hm => by
      have e := SP_take (text := text) hi
      by_cases h : m < s.length ∧ endsAt s text
      · rw [if_pos h]
        exact hm.yes ⟨h.1, (e _).mpr (.inr ⟨rfl, h.2⟩)⟩ fun k _ hk => ((e k).mp hk).imp id And.left
      · rw [if_neg h]
        by_cases q : endsAt s text
        · exact hm.no (n := s.length) (fun z => h ⟨z.1, q⟩) (fun k _ hk => ((e k).mp hk).imp id And.left) fun k hk => (e k).mpr (.inl hk)
        · exact hm.iff fun k _ => ⟨fun z => (e k).mpr (.inl z), fun z => ((e k).mp z).resolve_right fun y => q y.2⟩)
  rw [List.take_length] at this
  exact this
/-- .. the i first ends, and of the next one the lengths below j -/
def HPj (stops : List (List Int)) (text : List Int) (i : Nat) (s : List Int) (j k : Nat) : Prop := HP (stops.take i) text k ∨ (k < j ∧ begins s text k)
theorem HPj_full {stops : List (List Int)} {text : List Int} {i j : Nat} {s : List Int} (h : stops[i]? = some s) (hj : s.length ≤ j ∨ text.length < j) (k : Nat) : HPj stops text i s j k ↔ HP (stops.take (i + 1)) text k := by
  constructor
  · rintro (⟨t, ht, e⟩ | ⟨_, e⟩)
    · exact ⟨t, (mem_take h).mpr (.inl ht), e⟩
    · exact ⟨s, (mem_take h).mpr (.inr rfl), e⟩
  · rintro ⟨t, ht, e⟩
    rcases (mem_take h).mp ht with r | r
    · exact .inl ⟨t, r, e⟩
    · subst r
      refine .inr ⟨?_, e⟩
      have := e.2.1; have := e.2.2.1
      omega
theorem HPj_step {stops : List (List Int)} {text : List Int} {i j : Nat} {s : List Int} (k : Nat) : HPj stops text i s (j + 1) k ↔ HPj stops text i s j k ∨ (k = j ∧ begins s text j) := by
  constructor
  · rintro (h | ⟨h, g⟩)
    · exact .inl (.inl h)
    · by_cases z : k = j
      · subst z; exact .inr ⟨rfl, g⟩
      · exact .inl (.inr ⟨by omega, g⟩)
  · rintro ((h | ⟨h, g⟩) | ⟨h, g⟩)
    · exact .inl h
    · exact .inr ⟨by omega, g⟩
    · subst h; exact .inr ⟨by omega, g⟩
/-- one length looked at -/
theorem hp_next {stops : List (List Int)} {text : List Int} {i j m : Nat} {s : List Int} (hm : Best (HPj stops text i s j) m) : Best (HPj stops text i s (j + 1)) (if m < j ∧ begins s text j then j else m) := by
  have e := HPj_step (stops := stops) (text := text) (i := i) (j := j) (s := s)
  by_cases h : m < j ∧ begins s text j
  · rw [if_pos h]
    exact hm.yes ⟨h.1, (e _).mpr (.inr ⟨rfl, h.2⟩)⟩ fun k _ hk => ((e k).mp hk).imp id And.left
  · rw [if_neg h]
    by_cases q : begins s text j
    · exact hm.no (n := j) (fun z => h ⟨z.1, q⟩) (fun k _ hk => ((e k).mp hk).imp id And.left) fun k hk => (e k).mpr (.inl hk)
    · exact hm.iff fun k _ => ⟨fun z => (e k).mpr (.inl z), fun z => ((e k).mp z).resolve_right fun y => q y.2⟩
theorem HPj_0 {stops : List (List Int)} {text : List Int} {i j : Nat} {s : List Int} (hj : j ≤ 1) (k : Nat) : HPj stops text i s j k ↔ HP (stops.take i) text k := by
  constructor
  · rintro (h | ⟨h, g⟩)
    · exact h
    · have := g.1; omega
  · exact .inl
theorem hp_first {stops : List (List Int)} {text : List Int} {i m j : Nat} {s : List Int} (hm : Best (HP (stops.take i) text) m) (hj : j ≤ 1) : Best (HPj stops text i s j) m := hm.iff fun k _ => (HPj_0 hj k).symm
theorem hp_last {stops : List (List Int)} {text : List Int} {i m j : Nat} {s : List Int} (h : stops[i]? = some s) (hj : s.length ≤ j ∨ text.length < j) (hm : Best (HPj stops text i s j) m) : Best (HP (stops.take (i + 1)) text) m := hm.iff fun k _ => HPj_full h hj k
theorem best_none {stops : List (List Int)} {text : List Int} : Best (HP (stops.take 0) text) 0 := best0 fun k _ ⟨s, h, _⟩ => by simp at h
theorem best_noneS {stops : List (List Int)} {text : List Int} : Best (SP (stops.take 0) text) 0 := best0 fun k _ ⟨s, h, _⟩ => by simp at h
theorem best_heldF (stops : List (List Int)) (text : List Int) : Best (HP stops text) (heldF stops text) := by
  have := foldl_inv0 (fun i m => Best (HP (stops.take i) text) m) (fun m s => (List.range s.length).foldl (fun m k => if m < k ∧ begins s text k then k else m) m) (xs := stops) (b := 0)
    best_none (fun i s m hi hm => by
      have := foldl_inv0 (fun j m => Best (HPj stops text i s j) m) (fun m k => if m < k ∧ begins s text k then k else m) (xs := List.range s.length) (b := m) (hp_first hm (by omega)) (fun j x m hj hm => by
        have : x = j := by
          rw [List.getElem?_range (by have := lt_of_some hj; simpa using this)] at hj
          exact (Option.some.inj hj).symm
        subst this
        exact hp_next hm)
      rw [List.length_range] at this
      exact hp_last hi (.inl (Nat.le_refl _)) this)
  rw [List.take_length] at this
  exact this
theorem stop_next {stops : List (List Int)} {text : List Int} {i m : Nat} {s : List Int} (hi : stops[i]? = some s) (hm : Best (SP (stops.take i) text) m) : Best (SP (stops.take (i + 1)) text) (if m < s.length ∧ endsAt s text then s.length else m) := by
  have e := SP_take (text := text) hi
  by_cases h : m < s.length ∧ endsAt s text
  · rw [if_pos h]
    exact hm.yes ⟨h.1, (e _).mpr (.inr ⟨rfl, h.2⟩)⟩ fun k _ hk => ((e k).mp hk).imp id And.left
  · rw [if_neg h]
    by_cases q : endsAt s text
    · exact hm.no (n := s.length) (fun z => h ⟨z.1, q⟩) (fun k _ hk => ((e k).mp hk).imp id And.left) fun k hk => (e k).mpr (.inl hk)
    · exact hm.iff fun k _ => ⟨fun z => (e k).mpr (.inl z), fun z => ((e k).mp z).resolve_right fun y => q y.2⟩
/-! ### what is held is all that counts -/
theorem heldF_le (stops : List (List Int)) (text : List Int) : heldF stops text ≤ text.length := by
  rcases (best_heldF stops text).1 with h | ⟨s, _, h⟩
  · omega
  · exact h.2.2.1
theorem stopF_le (stops : List (List Int)) (text : List Int) : stopF stops text ≤ text.length := by
  rcases (best_stopF stops text).1 with h | ⟨s, _, e, h⟩
  · omega
  · have := h.1; omega
/-- what ends a text ends its last part -/
theorem drop_tail {xs : List Int} {n k : Nat} (h : n ≤ xs.length) (hk : k ≤ n) : (xs.drop (xs.length - n)).drop (n - k) = xs.drop (xs.length - k) := by
  rw [List.drop_drop]
  congr 1
  omega
theorem begins_tail {s text : List Int} {n k : Nat} (h : n ≤ text.length) (hk : k ≤ n) : begins s (text.drop (text.length - n)) k ↔ begins s text k := by
  have e : (text.drop (text.length - n)).length = n := by rw [List.length_drop]; omega
  unfold begins
  rw [e, drop_tail h hk]
  constructor
  · rintro ⟨a, b, c, d⟩; exact ⟨a, b, by omega, d⟩
  · rintro ⟨a, b, c, d⟩; exact ⟨a, b, by omega, d⟩
theorem ends_tail {s text : List Int} {n : Nat} (h : n ≤ text.length) (hk : s.length ≤ n) : endsAt s (text.drop (text.length - n)) ↔ endsAt s text := by
  have e : (text.drop (text.length - n)).length = n := by rw [List.length_drop]; omega
  unfold endsAt
  rw [e, drop_tail h hk]
  constructor
  · rintro ⟨a, b⟩; exact ⟨by omega, b⟩
  · rintro ⟨a, b⟩; exact ⟨by omega, b⟩
/-- a beginning of more than one letter: one letter less, one letter ago -/
theorem drop_last {text : List Int} {l : Int} {k : Nat} (hk : k ≤ text.length) : (text ++ [l]).drop ((text ++ [l]).length - (k + 1)) = text.drop (text.length - k) ++ [l] := by
  rw [List.length_append, List.length_singleton, List.drop_append_of_le_length (by omega)]
  congr 2
  omega
theorem begun_ago {stops : List (List Int)} {text : List Int} {l : Int} {s : List Int} {k : Nat} (hs : s ∈ stops) (hk : k + 1 ≤ s.length) (ht : k + 1 ≤ text.length + 1) (h : (text ++ [l]).drop ((text ++ [l]).length - (k + 1)) = s.take (k + 1)) : k ≤ heldF stops text := by
  by_cases z : k = 0
  · omega
  refine (best_heldF stops text).2 k ⟨s, hs, by omega, by omega, by omega, ?_⟩
  rw [drop_last (by omega)] at h
  have e := congrArg (List.take k) h
  rw [List.take_take, Nat.min_eq_left (by omega), List.take_append_of_le_length (by rw [List.length_drop]; omega)] at e
  rw [← e, List.take_of_length_le (by rw [List.length_drop]; omega)]
theorem tail_app {text : List Int} {l : Int} {n : Nat} (h : n ≤ text.length) : text.drop (text.length - n) ++ [l] = (text ++ [l]).drop ((text ++ [l]).length - (n + 1)) := by
  rw [drop_last h]
theorem heldF_feed (stops : List (List Int)) (text : List Int) (l : Int) : heldF stops (text.drop (text.length - heldF stops text) ++ [l]) = heldF stops (text ++ [l]) := by
  have hle := heldF_le stops text
  rw [tail_app hle]
  refine Best.uniq (best_heldF _ _) ((best_heldF stops (text ++ [l])).iff fun k hk => ?_)
  have hl : (text ++ [l]).length = text.length + 1 := by simp
  constructor
  · rintro ⟨s, hs, h⟩
    refine ⟨s, hs, (begins_tail (by omega) ?_).mpr h⟩
    obtain ⟨a, b, c, d⟩ := h
    have := begun_ago (text := text) (l := l) (k := k - 1) hs (by omega) (by omega) (by rw [show k - 1 + 1 = k by omega]; exact d)
    omega
  · rintro ⟨s, hs, h⟩
    refine ⟨s, hs, (begins_tail (by omega) ?_).mp h⟩
    have := h.2.2.1
    rw [List.length_drop] at this
    omega
theorem stopF_feed (stops : List (List Int)) (text : List Int) (l : Int) : stopF stops (text.drop (text.length - heldF stops text) ++ [l]) = stopF stops (text ++ [l]) := by
  have hle := heldF_le stops text
  rw [tail_app hle]
  refine Best.uniq (best_stopF _ _) ((best_stopF stops (text ++ [l])).iff fun k hk => ?_)
  have hl : (text ++ [l]).length = text.length + 1 := by simp
  constructor
  · rintro ⟨s, hs, e, h⟩
    refine ⟨s, hs, e, (ends_tail (by omega) ?_).mpr h⟩
    obtain ⟨a, b⟩ := h
    have := begun_ago (text := text) (l := l) (k := k - 1) hs (by omega) (by omega) (by rw [show k - 1 + 1 = k by omega, ← e, List.take_length]; exact b)
    omega
  · rintro ⟨s, hs, e, h⟩
    refine ⟨s, hs, e, (ends_tail (by omega) ?_).mp h⟩
    have := h.1
    rw [List.length_drop] at this
    omega
/-! ### slices from the end -/
theorem cutI_end {xs : List Int} {n : Nat} (h : n ≤ xs.length) : cutI xs (some ((xs.length : Int) - (n : Int))) none = xs.drop (xs.length - n) := by
  rw [cutI_from (by omega)]; congr 1; omega
theorem cutI_but {xs : List Int} {n : Nat} (h : n ≤ xs.length) : cutI xs none (some ((xs.length : Int) - (n : Int))) = xs.take (xs.length - n) := by
  rw [cutI_to (by omega)]; congr 1; omega
theorem cutI_nat {xs : List Int} {n : Nat} : cutI xs none (some (n : Int)) = xs.take n := by
  rw [cutI_to (by omega)]; congr 1
theorem cutI_natF {xs : List Int} {n : Nat} : cutI xs (some (n : Int)) none = xs.drop n := by
  rw [cutI_from (by omega)]; congr 1
end K90
set_option Elab.async false
set_option linter.all false
set_option maxRecDepth 100000
set_option maxHeartbeats 1000000
namespace K90
open PySem PySem.Spec PyProof.Rows L2 DL
section
variable {α : Type} {a b c d : α} {l : List α}
theorem at_0 : atI (a :: l) 0 = some a := by
  unfold atI ixN
  rw [if_pos (by decide), if_pos (by simp only [List.length_cons]; omega)]; rfl
theorem at_1 : atI (a :: b :: l) 1 = some b := by
  unfold atI ixN
  rw [if_pos (by decide), if_pos (by simp only [List.length_cons]; omega)]; rfl
theorem at_2 : atI [a, b, c, d] 2 = some c := rfl
theorem at_3 : atI [a, b, c, d] 3 = some d := rfl
theorem ix4_1 : ixN [a, b, c, d].length 1 = some 1 := rfl
theorem ix4_2 : ixN [a, b, c, d].length 2 = some 2 := rfl
theorem ix4_3 : ixN [a, b, c, d].length 3 = some 3 := rfl
theorem ix2_0 : ixN [a, b].length 0 = some 0 := rfl
theorem ix2_1 : ixN [a, b].length 1 = some 1 := rfl
end
local macro_rules | `(tactic| walk_at "r") => `(tactic| try simp only [wSeq, wNext, wSet, wC, wFor, wIt, wRg1, wRg2, wVar, wIf, wAnd, wOr, wNot, wTest, wChain, wBin, wCB, wCons, wNil, wSl, wP, wNoP, wRet, wRetN, wDrop, wCall, wTup, wLst, wLstM, wUn, wIfE, wAndV, wOrV, wNotV, wIsi, wYes, wSetI, wSetF, wFld, wAugF, wMt, wMeth, wLc, wLcM, wBreak, xcQ, fldD, setD, setIx, mutL, isIns, stMO, put_same, put_put, oAppend, oExtend,
  getV, setV, some!, one, two, asI, oLen, oLt, oLe, oGt, oGe, oI0, oI, oSub, oMul, oMod, oDiv, oPow, oAdd, oCatL, oEq, oNe, oIsN, oNotN, oIx, oSl, oTuple, oList, oMax2, oMin2, oInt, gN, seqA, seqL, seqM, dT, dL, List.length_map, decide_eq_true_eq, shD_int, shD_bl, shD_lst, shD_tup, eqD_int, eqD_bl, eqD_lst, eqD_tup, cutD_int, true_and, and_true, if_true, if_false, Bool.false_eq_true, Bool.true_eq_false, eq_self_iff_true,
  at_0, at_1, at_2, at_3, ix4_1, ix4_2, ix4_3, ix2_0, ix2_1, List.set_cons_zero, List.set_cons_succ, Bool.not_true, Bool.not_false])
theorem len_stop_length (c : Cl) : ∀ ds S Q E, sp_stop_length c ds S Q E → ds.length = 2 := by
  rintro ds S Q E ⟨_, _, rfl, _⟩; rfl
theorem rd_stop_length (c : Cl) : ∀ ds S Q X1, sp_stop_length c ds S Q X1 → w_stop_length c (startD N_stop_length_ ds) S (endQ Q X1) := by
  rintro ds S Q X1 ⟨stops, text, rfl, h⟩
  show w_stop_length c [some (.tup (stops.map dT)), some (dT text), none, none] S (endQ Q X1)
  unfold w_stop_length
  simp only [wSeq, wSet, wC, wFor, wIt, wVar, getV, setV, some!, seqA, gN]
  refine forI_invq (fun i e S' => S' = S ∧ ∃ m x, Best (SP (stops.take i) text) m ∧ e = [some (.tup (stops.map dT)), some (dT text), some (.int (m : Nat)), x]) ⟨rfl, 0, none, best_noneS, rfl⟩ (fun _ _ _ _ => trivial) ?_ ?_
  · rintro i d e S' hi ⟨rfl, m, x, hm, rfl⟩ q hq hrt hbk hct hxc
    rw [List.getElem?_map] at hi
    obtain ⟨s, hs, rfl⟩ := Option.map_eq_some_iff.mp hi
    have key : ∀ (m' : Nat) x, (if m < s.length ∧ endsAt s text then s.length else m) = m' → q.nx [some (.tup (stops.map dT)), some (dT text), some (.int (m' : Nat)), x] S' := fun m' x e => hq _ _ ⟨rfl, m', x, e ▸ stop_next hs hm, rfl⟩
    walk_at "r"
    split
    · rename_i h1
      split
      · rename_i h2
        rw [cutI_end (by omega)]
        split
        · rename_i h3
          exact key _ _ (if_pos ⟨by omega, by omega, h3⟩)
        · rename_i h3
          exact key _ _ (if_neg fun z => h3 z.2.2)
      · rename_i h2
        exact key _ _ (if_neg fun z => h2 (by have := z.2.1; omega))
    · rename_i h1
      exact key _ _ (if_neg fun z => h1 (by have := z.1; omega))
  · rintro e S' ⟨rfl, m, x, hm, rfl⟩
    rw [List.length_map, List.take_length] at hm
    rw [Best.uniq hm (best_stopF _ _)]
    exact h
theorem len_held_back (c : Cl) : ∀ ds S Q E, sp_held_back c ds S Q E → ds.length = 2 := by
  rintro ds S Q E ⟨_, _, _, _, _, rfl, _⟩; rfl
theorem rd_held_back (c : Cl) : ∀ ds S Q X1, sp_held_back c ds S Q X1 → w_held_back c (startD N_held_back_ ds) S (endQ Q X1) := by
  rintro ds S Q X1 ⟨k, j, r, stops, text, rfl, ht, hs, h⟩
  show w_held_back c [some (rows k j stops), some (dR r text), none, none, none] S (endQ Q X1)
  unfold w_held_back
  simp only [wSeq, wSet, wC, wFor, wIt, wVar, getV, setV, some!, seqA_rows, seqA_dR, gN, wCB, wCons, wNil, oTuple, one]
  refine forI_invq (fun i e S' => S' = S ∧ ∃ m x y, Best (HP (stops.take i) text) m ∧ e = [some (rows k j stops), some (dT text), some (.int (m : Nat)), x, y]) ⟨rfl, 0, none, none, best_none, rfl⟩ (fun _ _ _ _ => trivial) ?_ ?_
  · rintro i d e S' hi ⟨rfl, m, x, y, hm, rfl⟩ q hq hrt hbk hct hxc
    rw [List.getElem?_map] at hi
    obtain ⟨s, hs1, rfl⟩ := Option.map_eq_some_iff.mp hi
    have hsl := hs s (List.mem_of_getElem? hs1)
    cases j <;> simp only [dR, if_true, if_false, Bool.false_eq_true]
    all_goals
      walk_at "r"
      refine ⟨by omega, ?_⟩
      refine forI_invq (fun n e S2 => S2 = S' ∧ ∃ m y, Best (HPj stops text i s (n + 1)) m ∧ e = [some (rows k _ stops), some (.tup (text.map D.int)), some (.int (m : Nat)), some _, y]) ⟨rfl, m, y, hp_first hm (by omega), rfl⟩ (fun _ _ _ _ => trivial) ?_ ?_
      · rintro n d e S2 hn ⟨rfl, m, y, hm, rfl⟩ q2 hq2 hrt2 hbk2 hct2 hxc2
        obtain ⟨hlt, rfl⟩ := rngD_get hn
        have key : ∀ (m' : Nat) y, (if m < n + 1 ∧ begins s text (n + 1) then n + 1 else m) = m' → q2.nx [some (rows k _ stops), some (.tup (text.map D.int)), some (.int (m' : Nat)), some _, y] S2 := fun m' y e => hq2 _ _ ⟨rfl, m', y, e ▸ hp_next hm, rfl⟩
        walk_at "r"
        have e1 : (1 : Int) + (n : Int) = ((n + 1 : Nat) : Int) := by omega
        rw [e1]
        have e2 : n + 1 ≤ text.length := by omega
        have e3 : n + 1 < s.length := by omega
        rw [cutI_end e2, cutI_nat]
        split
        · rename_i h1
          split
          · rename_i h2
            exact key _ _ (if_pos ⟨by omega, by omega, e3, e2, h2⟩)
          · rename_i h2
            exact key _ _ (if_neg fun z => h2 z.2.2.2.2)
        · rename_i h1
          exact key _ _ (if_neg fun z => h1 (by have := z.1; omega))
      · rintro e S2 ⟨rfl, m, y, hm, rfl⟩
        refine hq _ _ ⟨rfl, m, _, _, hp_last hs1 ?_ hm, rfl⟩
        rw [rngD_length]
        omega
  · rintro e S' ⟨rfl, m, x, y, hm, rfl⟩
    rw [List.length_map, List.take_length] at hm
    rw [Best.uniq hm (best_heldF _ _)] 
    exact h
end K90
set_option Elab.async false
set_option linter.all false
set_option maxRecDepth 100000
set_option maxHeartbeats 1000000
namespace K90
open PySem PySem.Spec PyProof.Rows L2 DL
local macro_rules | `(tactic| walk_at "r") => `(tactic| try simp only [wSeq, wNext, wSet, wC, wFor, wIt, wRg1, wRg2, wVar, wIf, wAnd, wOr, wNot, wTest, wChain, wBin, wCB, wCons, wNil, wSl, wP, wNoP, wRet, wRetN, wDrop, wCall, wTup, wLst, wLstM, wUn, wIfE, wAndV, wOrV, wNotV, wIsi, wYes, wSetI, wSetF, wFld, wAugF, wMt, wMeth, wLc, wLcM, wBreak, xcQ, fldD, setD, setIx, mutL, isIns, stMO, put_same, put_put, oAppend, oExtend,
  getV, setV, some!, one, two, asI, oLen, oLt, oLe, oGt, oGe, oI0, oI, oSub, oMul, oMod, oDiv, oPow, oAdd, oCatL, oEq, oNe, oIsN, oNotN, oIx, oSl, oTuple, oList, oMax2, oMin2, oInt, gN, seqA, seqL, seqM, dT, dL, List.length_map, decide_eq_true_eq, shD_int, shD_bl, shD_lst, shD_tup, eqD_int, eqD_bl, eqD_lst, eqD_tup, cutD_int, true_and, and_true, if_true, if_false, Bool.false_eq_true, Bool.true_eq_false, eq_self_iff_true,
  at_0, at_1, at_2, at_3, ix4_1, ix4_2, ix4_3, ix2_0, ix2_1, List.set_cons_zero, List.set_cons_succ, Bool.not_true, Bool.not_false])
theorem seqL_cases {S : Sto} {t : D} {xs : List D} (h : seqL S t = some xs) : (∃ p, t = .ref p ∧ S p = some (.lst xs)) ∨ t = .lst xs ∨ t = .fro xs := by
  cases t with
  | ref p =>
    have h' : (match S p with | some (.lst ys) => some ys | _ => none) = some xs := h
    cases q : S p with
    | none => rw [q] at h'; cases h'
    | some m =>
      rw [q] at h'
      cases m with
      | lst ys => cases h'; exact .inl ⟨p, rfl, q⟩
      | _ => cases h'
  | lst ys => cases h; exact .inr (.inl rfl)
  | fro ys => cases h; exact .inr (.inr rfl)
  | _ => cases h
theorem len__law_stopped (c : Cl) : ∀ ds S Q E, sp__law_stopped c ds S Q E → ds.length = 2 := by
  rintro ds S Q E ⟨_, _, _, rfl, _⟩; rfl
theorem rd__law_stopped (c : Cl) : ∀ ds S Q X1, sp__law_stopped c ds S Q X1 → w__law_stopped c (startD N__law_stopped_ ds) S (endQ Q X1) := by
  rintro ds S Q X1 ⟨stops, t, text, rfl, ht, h⟩
  show w__law_stopped c [some (.lst (stops.map dL)), some t, none, none] S (endQ Q X1)
  unfold w__law_stopped
  simp only [wSeq, wSet, wC, wFor, wIt, wVar, getV, setV, some!, seqA, seqL, seqM, gN]
  refine forI_invq (fun i e S' => S' = S ∧ ∃ m x, Best (SP (stops.take i) text) m ∧ e = [some (.lst (stops.map dL)), some t, some (.int (m : Nat)), x]) ⟨rfl, 0, none, best_noneS, rfl⟩ (fun _ _ _ _ => trivial) ?_ ?_
  · rintro i d e S' hi ⟨rfl, m, x, hm, rfl⟩ q hq hrt hbk hct hxc
    rw [List.getElem?_map] at hi
    obtain ⟨s, hs, rfl⟩ := Option.map_eq_some_iff.mp hi
    have e := SP_take (text := text) hs
    have key1 : ∀ (m' : Nat) x, endsAt s text → m' = max m s.length → q.nx [some (.lst (stops.map dL)), some t, some (.int (m' : Nat)), x] S' := fun m' x h e1 => hq _ _ ⟨rfl, m', x, e1 ▸ hm.max ((e _).mpr (.inr ⟨rfl, h⟩)) (fun k _ hk => ((e k).mp hk).imp id And.left) (fun k hk => (e k).mpr (.inl hk)), rfl⟩
    have key2 : ∀ x, ¬ endsAt s text → q.nx [some (.lst (stops.map dL)), some t, some (.int (m : Nat)), x] S' := fun x h => hq _ _ ⟨rfl, m, x, hm.iff fun k _ => ⟨fun z => (e k).mpr (.inl z), fun z => ((e k).mp z).resolve_right fun y => h y.2⟩, rfl⟩
    rcases seqL_cases ht with ⟨p, rfl, hp⟩ | rfl | rfl
    all_goals
      walk_at "r"
      try simp only [hp, List.length_map]
      split
      · rename_i h2
        walk_at "r"
        try simp only [hp]
        walk_at "r"
        rw [cutI_end (by omega)]
        split
        · rename_i h3
          have := key1 (max m s.length) (some (dL s)) ⟨by omega, h3.symm⟩ rfl
          rw [show ((max m s.length : Nat) : Int) = max (m : Int) (s.length : Int) by omega] at this
          exact this
        · rename_i h3
          exact key2 _ fun z => h3 z.2.symm
      · rename_i h2
        exact key2 _ fun z => h2 (by have := z.1; omega)
  · rintro e S' ⟨rfl, m, x, hm, rfl⟩
    rw [List.length_map, List.take_length] at hm
    rw [Best.uniq hm (best_stopF _ _)]
    exact h
theorem len__law_held (c : Cl) : ∀ ds S Q E, sp__law_held c ds S Q E → ds.length = 2 := by
  rintro ds S Q E ⟨_, _, _, rfl, _⟩; rfl
theorem rd__law_held (c : Cl) : ∀ ds S Q X1, sp__law_held c ds S Q X1 → w__law_held c (startD N__law_held_ ds) S (endQ Q X1) := by
  rintro ds S Q X1 ⟨stops, t, text, rfl, ht, hs, h⟩
  show w__law_held c [some (.lst (stops.map dL)), some t, none, none, none] S (endQ Q X1)
  unfold w__law_held
  simp only [wSeq, wSet, wC, wFor, wIt, wVar, getV, setV, some!, seqA, seqL, seqM, gN]
  refine forI_invq (fun i e S' => S' = S ∧ ∃ m x y, Best (HP (stops.take i) text) m ∧ e = [some (.lst (stops.map dL)), some t, some (.int (m : Nat)), x, y]) ⟨rfl, 0, none, none, best_none, rfl⟩ (fun _ _ _ _ => trivial) ?_ ?_
  · rintro i d e S' hi ⟨rfl, m, x, y, hm, rfl⟩ q hq hrt hbk hct hxc
    rw [List.getElem?_map] at hi
    obtain ⟨s, hs1, rfl⟩ := Option.map_eq_some_iff.mp hi
    have hsl := hs s (List.mem_of_getElem? hs1)
    walk_at "r"
    refine ⟨by omega, ?_⟩
    refine forI_invq (fun n e S2 => S2 = S' ∧ ∃ m y, Best (HPj stops text i s (n + 1)) m ∧ e = [some (.lst (stops.map dL)), some t, some (.int (m : Nat)), some (.lst (s.map D.int)), y]) ⟨rfl, m, y, hp_first hm (by omega), rfl⟩ (fun _ _ _ _ => trivial) ?_ ?_
    · rintro n d e S2 hn ⟨rfl, m, y, hm, rfl⟩ q2 hq2 hrt2 hbk2 hct2 hxc2
      obtain ⟨hlt, rfl⟩ := rngD_get hn
      have e := HPj_step (stops := stops) (text := text) (i := i) (j := n + 1) (s := s)
      have key1 : ∀ (m' : Nat) y, begins s text (n + 1) → m' = max m (n + 1) → q2.nx [some (.lst (stops.map dL)), some t, some (.int (m' : Nat)), some (.lst (s.map D.int)), y] S2 := fun m' y h e1 => hq2 _ _ ⟨rfl, m', y, e1 ▸ hm.max ((e _).mpr (.inr ⟨rfl, h⟩)) (fun k _ hk => ((e k).mp hk).imp id And.left) (fun k hk => (e k).mpr (.inl hk)), rfl⟩
      have key2 : ∀ y, ¬ begins s text (n + 1) → q2.nx [some (.lst (stops.map dL)), some t, some (.int (m : Nat)), some (.lst (s.map D.int)), y] S2 := fun y h => hq2 _ _ ⟨rfl, m, y, hm.iff fun k _ => ⟨fun z => (e k).mpr (.inl z), fun z => ((e k).mp z).resolve_right fun y => h y.2⟩, rfl⟩
      have e1 : (1 : Int) + (n : Int) = ((n + 1 : Nat) : Int) := by omega
      have e3 : n + 1 < s.length := by omega
      rcases seqL_cases ht with ⟨p, rfl, hp⟩ | rfl | rfl
      all_goals
        walk_at "r"
        try simp only [hp, List.length_map]
        rw [e1]
        split
        · rename_i h2
          walk_at "r"
          try simp only [hp]
          walk_at "r"
          rw [cutI_end (by omega), cutI_nat]
          split
          · rename_i h3
            have := key1 (max m (n + 1)) (some (.int ((n + 1 : Nat) : Int))) ⟨by omega, e3, by omega, h3.symm⟩ rfl
            rw [show ((max m (n + 1) : Nat) : Int) = max (m : Int) ((n + 1 : Nat) : Int) by omega] at this
            exact this
          · rename_i h3
            exact key2 _ fun z => h3 z.2.2.2.symm
        · rename_i h2
          exact key2 _ fun z => h2 (by have := z.2.2.1; omega)
    · rintro e S2 ⟨rfl, m, y, hm, rfl⟩
      refine hq _ _ ⟨rfl, m, _, _, hp_last hs1 ?_ hm, rfl⟩
      rw [rngD_length]
      omega
  · rintro e S' ⟨rfl, m, x, y, hm, rfl⟩
    rw [List.length_map, List.take_length] at hm
    rw [Best.uniq hm (best_heldF _ _)]
    exact h
end K90
set_option Elab.async false
set_option linter.all false
set_option maxRecDepth 100000
set_option maxHeartbeats 1000000
namespace K90
open PySem PySem.Spec PyProof.Rows L2 DL
local macro_rules | `(tactic| walk_at "r") => `(tactic| try simp only [wSeq, wNext, wSet, wC, wFor, wIt, wRg1, wRg2, wVar, wIf, wAnd, wOr, wNot, wTest, wChain, wBin, wCB, wCons, wNil, wSl, wP, wNoP, wRet, wRetN, wDrop, wCall, wTup, wLst, wLstM, wUn, wIfE, wAndV, wOrV, wNotV, wIsi, wYes, wSetI, wSetF, wFld, wAugF, wMt, wMeth, wLc, wLcM, wBreak, xcQ, fldD, setD, setIx, mutL, isIns, stMO, put_same, put_put, oAppend, oExtend,
  getV, setV, some!, one, two, asI, oLen, oLt, oLe, oGt, oGe, oI0, oI, oSub, oMul, oMod, oDiv, oPow, oAdd, oCatL, oEq, oNe, oIsN, oNotN, oIx, oSl, oTuple, oList, oMax2, oMin2, oInt, gN, seqA, seqL, seqM, dT, dL, List.length_map, decide_eq_true_eq, shD_int, shD_bl, shD_lst, shD_tup, eqD_int, eqD_bl, eqD_lst, eqD_tup, cutD_int, true_and, and_true, if_true, if_false, Bool.false_eq_true, Bool.true_eq_false, eq_self_iff_true,
  at_0, at_1, at_2, at_3, ix4_1, ix4_2, ix4_3, ix2_0, ix2_1, List.set_cons_zero, List.set_cons_succ, Bool.not_true, Bool.not_false])

theorem len_Stopper_init (c : Cl) : ∀ ds S Q E, sp_Stopper_init c ds S Q E → ds.length = 2 := by
  rintro ds S Q E ⟨_, _, _, rfl, _⟩; rfl
theorem rd_Stopper_init (c : Cl) : ∀ ds S Q X1, sp_Stopper_init c ds S Q X1 → w_Stopper_init c (startD N_Stopper_init_ ds) S (endQ Q X1) := by
  rintro ds S Q X1 ⟨a, d, stops, rfl, h0, ⟨hr, hn⟩, h⟩
  obtain ⟨es, e1, e2, e3⟩ := hr
  show w_Stopper_init c [some (.ref a), some d, none] S (endQ Q X1)
  have h0' : S a = some (.ins c.Stopper N_Stopper [none, none, none, none]) := h0
  unfold w_Stopper_init
  simp only [wSeq, wSetF, wCB, wCons, wNil, wLc, wIt, wVar, getV, setV, some!, e1, delVs, delV]
  refine ⟨by rw [e2]; unfold sizeLine; omega, compI_map (fun e => (seqA S e).map D.tup) e1 (fun e he R hR => ?_) ?_⟩
  · obtain ⟨i, hi⟩ := List.getElem?_of_mem he
    obtain ⟨t, ht⟩ : ∃ t, stops[i]? = some t := ⟨_, List.getElem?_eq_getElem (by rw [← e2]; exact lt_of_some hi)⟩
    have e4 := e3 i e t hi ht
    simp only [wYes, wCB, wCons, wNil, wVar, gN, setV, getV, some!, oTuple, one, if_true, e4]
    rw [e4] at hR
    exact hR
  · have e5 : es.filterMap (fun e => (seqA S e).map D.tup) = stops.map dT := by
      clear e1 hn h h0 h0'
      induction es generalizing stops with
      | nil =>
        cases stops with
        | nil => rfl
        | cons s r => cases e2
      | cons e r ih =>
        cases stops with
        | nil => cases e2
        | cons s q =>
          have e4 := e3 0 e s rfl rfl
          rw [List.filterMap_cons, e4, List.map_cons]
          show dT s :: _ = _
          rw [ih q (Nat.succ.inj e2) fun i e' s' h1 h2 => e3 (i + 1) e' s' h1 h2]
    rw [e5]
    walk_at "r"
    simp only [h0']
    walk_at "r"
    simp only [List.length_nil]
    exact ⟨Nat.zero_le _, h⟩
theorem len_Stopper_has_stopped (c : Cl) : ∀ ds S Q E, sp_Stopper_has_stopped c ds S Q E → ds.length = 1 := by
  rintro ds S Q E ⟨_, _, rfl, _⟩; rfl
theorem rd_Stopper_has_stopped (c : Cl) : ∀ ds S Q X1, sp_Stopper_has_stopped c ds S Q X1 → w_Stopper_has_stopped c (startD N_Stopper_has_stopped_ ds) S (endQ Q X1) := by
  rintro ds S Q X1 ⟨a, s, rfl, h0, h⟩
  show w_Stopper_has_stopped c [some (.ref a)] S (endQ Q X1)
  unfold w_Stopper_has_stopped
  walk_at "r"
  simp only [h0]
  walk_at "r"
  exact h
theorem len_Stopper_letters_held (c : Cl) : ∀ ds S Q E, sp_Stopper_letters_held c ds S Q E → ds.length = 1 := by
  rintro ds S Q E ⟨_, _, rfl, _⟩; rfl
theorem rd_Stopper_letters_held (c : Cl) : ∀ ds S Q X1, sp_Stopper_letters_held c ds S Q X1 → w_Stopper_letters_held c (startD N_Stopper_letters_held_ ds) S (endQ Q X1) := by
  rintro ds S Q X1 ⟨a, s, rfl, h0, h⟩
  show w_Stopper_letters_held c [some (.ref a)] S (endQ Q X1)
  unfold w_Stopper_letters_held
  walk_at "r"
  simp only [h0]
  walk_at "r"
  exact h
theorem len_Stopper_feed (c : Cl) : ∀ ds S Q E, sp_Stopper_feed c ds S Q E → ds.length = 2 := by
  rintro ds S Q E ⟨_, _, _, rfl, _⟩; rfl
theorem rd_Stopper_feed (c : Cl) : ∀ ds S Q X1, sp_Stopper_feed c ds S Q X1 → w_Stopper_feed c (startD N_Stopper_feed_ ds) S (endQ Q X1) := by
  rintro ds S Q X1 ⟨a, s, l, rfl, h0, ⟨hl, hs⟩, h⟩
  show w_Stopper_feed c [some (.ref a), some (.int l), none, none, none] S (endQ Q X1)
  obtain ⟨stops, held, many, stop⟩ := s
  unfold w_Stopper_feed
  have h0' : S a = some (.ins c.Stopper N_Stopper [some (.tup (stops.map dT)), some (.tup (held.map D.int)), some (.int many), some (.bl stop)]) := h0
  have z1 : ([D.int l] : List D).length ≤ sizeLine := by show 1 ≤ sizeLine; decide
  dsimp only at hl hs
  walk_at "r"
  simp only [h0']
  walk_at "r"
  cases stop with
  | true =>
    walk_at "r"
    have e : put S a (stMO c ⟨stops, held, many, true⟩) = S := put_self h0
    have h' : Q (dT []) (put S a (stMO c ⟨stops, held, many, true⟩)) := h
    rw [e] at h'
    exact ⟨Nat.zero_le _, h'⟩
  | false =>
    have h2 : Q (dT (feedF ⟨stops, held, many, false⟩ l).1) (put S a (stMO c (feedF ⟨stops, held, many, false⟩ l).2)) := h
    unfold feedF at h2
    rw [if_neg Bool.false_ne_true] at h2
    dsimp only at h2
    have hll : (held ++ [l]).length ≤ 1001 := by simp; omega
    have ez : held.map D.int ++ [D.int l] = (held ++ [l]).map D.int := by simp
    walk_at "r"
    refine ⟨z1, by show _ + 1 ≤ _; unfold sizeLine; omega, ?_⟩
    rw [ez]
    generalize held ++ [l] = text at *
    have sl := stopF_le stops text
    have kl := heldF_le stops text
    refine ⟨stops, text, rfl, ?_⟩
    walk_at "r"
    split
    · rename_i h1
      rw [if_pos (by omega)] at h2
      simp only [h0']
      walk_at "r"
      refine ⟨Nat.zero_le _, ?_⟩
      rw [cutI_but sl]
      exact h2
    · rename_i h1
      rw [if_neg (by omega)] at h2
      simp only [h0']
      walk_at "r"
      refine ⟨true, true, true, stops, text, rfl, by omega, fun s hs1 => by have := hs s hs1; omega, ?_⟩
      walk_at "r"
      simp only [h0']
      walk_at "r"
      rw [cutI_but kl, cutI_end kl]
      exact h2
theorem len__law_hand (c : Cl) : ∀ ds S Q E, sp__law_hand c ds S Q E → ds.length = 1 := by
  rintro ds S Q E ⟨_, rfl, _⟩; rfl
theorem rd__law_hand (c : Cl) : ∀ ds S Q X1, sp__law_hand c ds S Q X1 → w__law_hand c (startD N__law_hand_ ds) S (endQ Q X1) := by
  rintro ds S Q X1 ⟨cells, rfl, hl, h⟩
  show w__law_hand c [some (.fro (cells.map D.int)), none] S (endQ Q X1)
  unfold w__law_hand
  walk_at "r"
  rw [cutI_to (by omega), List.take_of_length_le (by omega)]
  refine ⟨by unfold sizeLine; omega, compI_map (fun e => some e) trivial (fun e he R hR => ?_) ?_⟩
  · obtain ⟨i, _, rfl⟩ := List.mem_map.mp he
    walk_at "r"
    exact hR
  · rw [List.filterMap_some]
    exact ⟨by simp only [List.length_cons, List.length_nil]; unfold sizeLine; omega, fun p hp => h p hp⟩
theorem len__law_draw (c : Cl) : ∀ ds S Q E, sp__law_draw c ds S Q E → ds.length = 2 := by
  rintro ds S Q E ⟨_, _, rfl, _⟩; rfl
theorem at_cell {cells : List Int} {i : Int} (h0 : 0 ≤ i) (h : i < cells.length) : ∃ x, atI (cells.map D.int) i = some (.int x) := by
  refine ⟨cells[i.toNat]'(by omega), ?_⟩
  unfold atI ixN
  rw [List.length_map, if_pos h0, if_pos h]
  show (cells.map D.int)[i.toNat]? = _
  rw [List.getElem?_map, List.getElem?_eq_getElem (by omega)]; rfl
theorem mulw {i j : Int} (hi : 0 ≤ i ∧ i < 2305843009213693951) (hj : 0 ≤ j ∧ j < 2305843009213693951) : CMulW i j := by
  have key : ∀ i : Int, 0 ≤ i ∧ i < 2305843009213693951 → i.natAbs.log2 < 61 := fun i hi => by
    by_cases z : i.natAbs = 0
    · rw [z]; decide
    · rw [Nat.log2_lt z]; omega
  have := key i hi
  have := key j hj
  unfold CMulW
  omega
theorem divw {i j : Int} (h : 0 < j ∧ j ≤ 1000000000) : CDivW i j := by
  refine ⟨h.1, ?_⟩
  by_cases z : j.natAbs = 0
  · omega
  · have : j.natAbs.log2 < 61 := by rw [Nat.log2_lt z]; omega
    omega
theorem rd__law_draw (c : Cl) : ∀ ds S Q X1, sp__law_draw c ds S Q X1 → w__law_draw c (startD N__law_draw_ ds) S (endQ Q X1) := by
  rintro ds S Q X1 ⟨p, n, rfl, ⟨⟨cells, at0, big, seed⟩, ⟨k1, k2, k3, k4, k5⟩, hp⟩, ⟨hn, hn2⟩, h⟩
  show w__law_draw c [some (.ref p), some (.int n), none, none] S (endQ Q X1)
  have hp' : S p = some (.lst [.lst (cells.map D.int), .int at0, .int big, .int seed]) := hp
  dsimp only at k1 k2 k3 k4 k5
  have hmod : ∀ x : Int, 0 ≤ x % 2305843009213693951 ∧ x % 2305843009213693951 < 2305843009213693951 := fun x => ⟨Int.emod_nonneg _ (by decide), Int.emod_lt_of_pos _ (by decide)⟩
  have hr : ∀ x : Int, 0 ≤ x % n ∧ x % n < n := fun x => ⟨Int.emod_nonneg _ (by omega), Int.emod_lt_of_pos _ hn⟩
  -- what follows the first part
  have last : ∀ (S1 : Sto) at1 big1 seed1 (x y : Option D), S1 = put S p (handMO ⟨cells, at1, big1, seed1⟩) → 0 ≤ at1 → 0 ≤ big1 → 0 ≤ seed1 → seed1 < 2305843009213693951 →
      (wSeq (wIf (wTest (wBin oGt (wBin oIx (wVar 0) (wC (.int 2))) (wC (.int 0)))) (wSeq (wSet 3 (wBin oMod (wCB oInt (wCons (wBin oIx (wVar 0) (wC (.int 2))) wNil)) (wVar 1)))
        (wSeq (wSetI (wVar 0) (wC (.int 2)) (wBin oDiv (wBin oIx (wVar 0) (wC (.int 2))) (wVar 1)))
        (wRet (wVar 3)))) wNext)
        (wSeq (wSetI (wVar 0) (wC (.int 3)) (wBin oMod (wBin oAdd (wBin oMul (wBin oIx (wVar 0) (wC (.int 3))) (wBin oIx (wVar 0) (wC (.int 3)))) (wC (.int 362436069))) (wC (.int 2305843009213693951))))
        (wRet (wBin oMod (wBin oDiv (wCB oInt (wCons (wBin oIx (wVar 0) (wC (.int 3))) wNil)) (wC (.int 1048576))) (wVar 1))))) [some (.ref p), some (.int n), x, y] S1 (endQ Q X1) := by
    rintro S1 at1 big1 seed1 x y rfl q1 q2 q3 q4
    have hp1 : put S p (handMO ⟨cells, at1, big1, seed1⟩) p = some (.lst [.lst (cells.map D.int), .int at1, .int big1, .int seed1]) := put_same
    generalize hS : put S p (handMO ⟨cells, at1, big1, seed1⟩) = S1 at *
    have hb : ∀ m, put S1 p m = put S p m := fun m => by rw [← hS, put_put]
    walk_at "r"
    simp only [hp1]
    walk_at "r"
    split
    · rename_i g
      walk_at "r"
      try simp only [hp1]
      walk_at "r"
      refine ⟨hn, divw ⟨hn, by omega⟩, ?_⟩
      try simp only [hp1]
      walk_at "r"
      rw [hb]
      exact h _ (hr _).1 (hr _).2 ⟨cells, at1, big1 / n, seed1⟩ ⟨k1, q1, Int.ediv_nonneg q2 (by omega), q3, q4⟩
    · rename_i g
      walk_at "r"
      try simp only [hp1]
      walk_at "r"
      refine ⟨mulw ⟨q3, q4⟩ ⟨q3, q4⟩, by decide, divw (by decide), hn, ?_⟩
      rw [hb]
      exact h _ (hr _).1 (hr _).2 ⟨cells, at1, big1, _⟩ ⟨k1, q1, q2, (hmod _).1, (hmod _).2⟩
  unfold w__law_draw
  generalize hw : (wSeq (wIf (wTest (wBin oGt (wBin oIx (wVar 0) (wC (.int 2))) (wC (.int 0)))) _ _) _) = W at last ⊢
  clear hw
  walk_at "r"
  simp only [hp']
  walk_at "r"
  have fin : W [some (.ref p), some (.int n), none, none] S (endQ Q X1) := last S at0 big seed none none (put_self hp).symm k2 k3 k4 k5
  split
  · split
    · rename_i g
      obtain ⟨x, hx⟩ := at_cell (cells := cells) k2 g
      rw [hx]
      have e60 : (10 : Int) ^ Int.toNat 60 * 10 ^ Int.toNat 60 = 10 ^ 120 := by decide +kernel
      have hpos : (0 : Int) < 10 ^ 120 := by decide +kernel
      walk_at "r"
      refine ⟨⟨by decide, by decide, by decide⟩, ?_⟩
      split
      · refine ⟨⟨by decide, by decide, by decide⟩, ⟨by decide, by decide, by decide⟩, ?_⟩
        rw [e60]
        refine ⟨by unfold CMulW; decide +kernel, hpos, mulw ⟨k4, k5⟩ ⟨k4, k5⟩, by decide, by decide, ?_⟩
        exact last _ _ _ _ _ _ rfl (by omega) (Int.emod_nonneg _ (by omega)) (hmod _).1 (hmod _).2
      · refine ⟨mulw ⟨k4, k5⟩ ⟨k4, k5⟩, by decide, by decide, ?_⟩
        exact last _ _ _ _ _ _ rfl (by omega) k3 (hmod _).1 (hmod _).2
    · exact fin
  · exact fin
end K90
set_option Elab.async false
set_option linter.all false
set_option maxRecDepth 100000
set_option maxHeartbeats 1000000
namespace K90
open PySem PySem.Spec PyProof.Rows L2 DL
theorem kb1 : kitB "tuple" "tuple" = some true := by decide +kernel
theorem kb2 : kitB "NoneType" "tuple" = some false := by decide +kernel
theorem kb3 : kitB "bool" "tuple" = some false := by decide +kernel
theorem kb4 : kitB "int" "tuple" = some false := by decide +kernel
theorem kb5 : kitB "bool" "bool" = some true := by decide +kernel
theorem kb6 : kitB "int" "bool" = some false := by decide +kernel
theorem kb7 : kitB "int" "str" = some false := by decide +kernel
theorem kb8 : kitB "int" "int" = some true := by decide +kernel
theorem kb9 : kitB "str" "tuple" = some false := by decide +kernel
theorem kb10 : kitB "str" "bool" = some false := by decide +kernel
theorem kb11 : kitB "str" "str" = some true := by decide +kernel
local macro_rules | `(tactic| walk_at "r") => `(tactic| try simp only [wSeq, wNext, wSet, wC, wFor, wIt, wRg1, wRg2, wVar, wIf, wAnd, wOr, wNot, wTest, wChain, wBin, wCB, wCons, wNil, wSl, wP, wNoP, wRet, wRetN, wDrop, wCall, wTup, wLst, wLstM, wUn, wIfE, wAndV, wOrV, wNotV, wIsi, wYes, wSetI, wSetF, wFld, wAugF, wMt, wMeth, wLc, wLcM, wBreak, xcQ, fldD, setD, setIx, mutL, isIns, stMO, put_same, put_put, oAppend, oExtend,
  getV, setV, some!, one, two, asI, oLen, oLt, oLe, oGt, oGe, oI0, oI, oSub, oMul, oMod, oDiv, oPow, oAdd, oCatL, oEq, oNe, oIsN, oNotN, oIx, oSl, oTuple, oList, oMax2, oMin2, oInt, gN, seqA, seqL, seqM, dT, dL, List.length_map, decide_eq_true_eq, shD_int, shD_bl, shD_lst, shD_tup, eqD_int, eqD_bl, eqD_lst, eqD_tup, cutD_int, true_and, and_true, if_true, if_false, Bool.false_eq_true, Bool.true_eq_false, eq_self_iff_true,
  at_0, at_1, at_2, at_3, ix4_1, ix4_2, ix4_3, ix2_0, ix2_1, List.set_cons_zero, List.set_cons_succ, Bool.not_true, Bool.not_false, tyN, kb1, kb2, kb3, kb4, kb5, kb6, kb7, kb8, kb9, kb10, kb11, isNon, delVs, delV])
theorem len__law_same_n (c : Cl) (n : Nat) : ∀ ds S Q E, sp__law_same_n c n ds S Q E → ds.length = 2 := by
  intro ds S Q E h
  cases n with
  | zero => exact h.elim
  | succ n => obtain ⟨_, rfl, _⟩ := h; rfl
theorem fm_map {α β : Type} {f : α → Option β} {g : α → β} : ∀ (l : List α), (∀ x, x ∈ l → f x = some (g x)) → l.filterMap f = l.map g
  | [], _ => rfl
  | x :: r, h => by rw [List.filterMap_cons, h x List.mem_cons_self, List.map_cons, fm_map r fun y hy => h y (List.mem_cons_of_mem _ hy)]
theorem rng_map {lo : Int} {n : Nat} {f : D → Option D} {g : Nat → D} (h : ∀ i, i < n → f (.int (lo + (i : Int))) = some (g i)) : (rngD lo n).filterMap f = (List.range n).map g := by
  unfold rngD
  rw [List.filterMap_map]
  exact fm_map _ fun i hi => h i (List.mem_range.mp hi)
theorem rd__law_same (c : Cl) (n : Nat) : ∀ ds S Q X1, sp__law_same_n c (n + 1) ds S Q X1 → w__law_same c n (startD N__law_same_ ds) S (endQ Q X1) := by
  rintro ds S Q X1 ⟨d, rfl, hp, h⟩
  show w__law_same c n [some d, some d, none] S (endQ Q X1)
  unfold w__law_same
  cases d with
  | non => walk_at "r"; exact h
  | bl b =>
    walk_at "r"
    rw [beq_self_eq_true]; exact h
  | int i => walk_at "r"; simp only [decide_true]; exact h
  | tup xs =>
    cases n with
    | zero => exact hp.elim
    | succ n =>
      obtain ⟨h1, h2⟩ := hp
      walk_at "r"
      simp only [decide_true, Bool.not_true, Bool.false_eq_true, if_false]
      walk_at "r"
      refine ⟨by omega, by rw [rngD_length]; unfold sizeLine; omega, compI_map (fun _ => some (.bl true)) trivial (fun e he R hR => ?_) ?_⟩
      · obtain ⟨i, hi⟩ := List.getElem?_of_mem he
        obtain ⟨hlt, rfl⟩ := rngD_get hi
        have hlt' : i < xs.length := by omega
        have e : atI xs (0 + (i : Int)) = some xs[i] := by
          unfold atI ixN
          rw [if_pos (by omega), if_pos (by omega)]
          show xs[(0 + (i : Int)).toNat]? = _
          rw [show (0 + (i : Int)).toNat = i by omega, List.getElem?_eq_getElem hlt']
        walk_at "r"
        rw [e]
        exact ⟨_, rfl, h2 _ (List.getElem_mem hlt'), hR⟩
      · rw [rng_map (g := fun _ => D.bl true) fun _ _ => rfl]
        have e : ∀ m, (List.range m).map (fun _ => D.bl true) = ((List.range m).map fun _ => true).map D.bl := fun m => by rw [List.map_map]; rfl
        rw [e]
        simp only [oAll, one, seqL, seqM, some!, toBls_map]
        have e2 : ∀ m, ((List.range m).map fun _ => true).all id = true := fun m => by simp
        rw [e2]
        exact h
  | _ => cases n <;> exact hp.elim
theorem imp__law_same (c : Cl) : ∀ ds S Q X1, sp__law_same c ds S Q X1 → sp__law_same_n c 8 ds S Q X1 := fun ds S Q X1 h => h
/-! ### draws -/
theorem draw_go {c : Cl} {p : Addr} {n : Int} {S : Sto} {Q : Qd} {X : XQ} (hS : IsHand S p) (hn : 0 < n ∧ n ≤ 100000) (h : ∀ r, 0 ≤ r → r < n → ∀ k, HandOk k → Q (.int r) (put S p (handMO k))) : sp__law_draw c [.ref p, .int n] S Q X :=
  ⟨p, n, rfl, hS, hn, fun r h0 h1 k hk => h r h0 h1 k hk⟩
theorem isHand_put {S : Sto} {p : Addr} {k : Hand} (h : HandOk k) : IsHand (put S p (handMO k)) p := ⟨k, h, put_same⟩
theorem at_mem {cells : List Int} {i : Int} (h0 : 0 ≤ i) (h : i < cells.length) : ∃ x, x ∈ cells ∧ atI (cells.map D.int) i = some (.int x) := by
  refine ⟨cells[i.toNat]'(by omega), List.getElem_mem _, ?_⟩
  unfold atI ixN
  rw [List.length_map, if_pos h0, if_pos h]
  show (cells.map D.int)[i.toNat]? = _
  rw [List.getElem?_map, List.getElem?_eq_getElem (by omega)]; rfl
theorem len__law_alphabet (c : Cl) : ∀ ds S Q E, sp__law_alphabet c ds S Q E → ds.length = 1 := by
  rintro ds S Q E ⟨_, rfl, _⟩; rfl
theorem rd__law_alphabet (c : Cl) : ∀ ds S Q X1, sp__law_alphabet c ds S Q X1 → w__law_alphabet c (startD N__law_alphabet_ ds) S (endQ Q X1) := by
  rintro ds S Q X1 ⟨p, rfl, hS, h⟩
  show w__law_alphabet c [some (.ref p), none, none, none] S (endQ Q X1)
  unfold w__law_alphabet
  walk_at "r"
  refine draw_go hS (by decide) fun base b0 b1 k1 o1 => ?_
  refine ⟨by show 4 ≤ sizeLine; decide, ?_⟩
  refine draw_go (isHand_put o1) (by decide) fun w w0 w1 k2 o2 => ?_
  obtain ⟨x, hx, e⟩ := at_mem (cells := [1, 5, 7, 11]) w0 w1
  rw [put_put]
  have e' : atI [D.int 1, D.int 5, D.int 7, D.int 11] w = some (.int x) := e
  walk_at "r"
  rw [e']
  walk_at "r"
  have hx2 : 0 ≤ x ∧ x < 2305843009213693951 := by
    simp at hx
    omega
  refine draw_go (isHand_put o2) (by decide) fun m m0 m1 k3 o3 => ?_
  walk_at "r"
  refine ⟨by omega, by rw [rngD_length]; unfold sizeLine; omega, compI_map (fun d => match d with | .int k => some (.int ((base + k * x) % 12)) | _ => none) trivial (fun e he R hR => ?_) ?_⟩
  · obtain ⟨i, hi⟩ := List.getElem?_of_mem he
    obtain ⟨hlt, rfl⟩ := rngD_get hi
    walk_at "r"
    exact ⟨mulw (by omega) hx2, by decide, hR⟩
  · rw [rng_map (g := fun (i : Nat) => D.int ((base + (0 + (i : Int)) * x) % 12)) fun _ _ => rfl]
    have e3 : ∀ m, (List.range m).map (fun (i : Nat) => D.int ((base + (0 + (i : Int)) * x) % 12)) = ((List.range m).map fun (i : Nat) => (base + (0 + (i : Int)) * x) % 12).map D.int := fun m => by rw [List.map_map]; rfl
    rw [e3]
    refine h _ ?_ ?_ k3 o3
    · intro z
      have := congrArg List.length z
      simp at this
      omega
    · simp; omega
theorem len__law_row (c : Cl) : ∀ ds S Q E, sp__law_row c ds S Q E → ds.length = 4 := by
  rintro ds S Q E ⟨_, _, _, _, rfl, _⟩; rfl
theorem rd__law_row (c : Cl) : ∀ ds S Q X1, sp__law_row c ds S Q X1 → w__law_row c (startD N__law_row_ ds) S (endQ Q X1) := by
  rintro ds S Q X1 ⟨p, al, l, m, rfl, hS, ⟨ha, ha2⟩, ⟨l1, l2, m1, m2⟩, h⟩
  show w__law_row c [some (.ref p), some (dL al), some (.int l), some (.int m), none] S (endQ Q X1)
  unfold w__law_row
  have hal : 0 < al.length := List.length_pos_iff.mpr ha
  walk_at "r"
  refine draw_go hS (by omega) fun w w0 w1 k1 o1 => ?_
  refine ⟨by omega, by rw [rngD_length]; unfold sizeLine; omega, ?_⟩
  refine compI_inv (fun i acc S' => ∃ ns : List Int, acc = ns.map D.int ∧ ns.length = i ∧ ∃ k, HandOk k ∧ S' = put S p (handMO k)) ⟨[], rfl, rfl, k1, o1, rfl⟩ (fun _ _ _ _ => trivial) ?_ ?_
  · rintro i d acc S' hi ⟨ns, rfl, hn, k, ok, rfl⟩
    walk_at "r"
    refine draw_go (isHand_put ok) (by omega) fun r r0 r1 k2 o2 => ?_
    obtain ⟨x, hx, e⟩ := at_mem (cells := al) r0 r1
    rw [put_put]
    walk_at "r"
    rw [e]
    exact ⟨ns ++ [x], by simp, by simp [hn], k2, o2, rfl⟩
  · rintro acc S' ⟨ns, rfl, hn, k, ok, rfl⟩
    rw [rngD_length] at hn
    refine h ns (fun z => ?_) (by omega) k ok
    rw [z] at hn
    simp at hn
    omega
end K90
set_option Elab.async false
set_option linter.all false
set_option maxRecDepth 100000
set_option maxHeartbeats 1000000
namespace K90
open PySem PySem.Spec PyProof.Rows L2 DL
local macro_rules | `(tactic| walk_at "r") => `(tactic| try simp only [wSeq, wNext, wSet, wC, wFor, wIt, wRg1, wRg2, wVar, wIf, wAnd, wOr, wNot, wTest, wChain, wBin, wCB, wCons, wNil, wSl, wP, wNoP, wRet, wRetN, wDrop, wCall, wTup, wLst, wLstM, wUn, wIfE, wAndV, wOrV, wNotV, wIsi, wYes, wSetI, wSetF, wFld, wAugF, wMt, wMeth, wLc, wLcM, wBreak, xcQ, fldD, setD, setIx, mutL, isIns, stMO, put_same, put_put, oAppend, oExtend,
  getV, setV, some!, one, two, asI, oLen, oLt, oLe, oGt, oGe, oI0, oI, oSub, oMul, oMod, oDiv, oPow, oAdd, oCatL, oEq, oNe, oIsN, oNotN, oIx, oSl, oTuple, oList, oMax2, oMin2, oInt, gN, seqA, seqL, seqM, dT, dL, List.length_map, decide_eq_true_eq, shD_int, shD_bl, shD_lst, shD_tup, eqD_int, eqD_bl, eqD_lst, eqD_tup, cutD_int, true_and, and_true, if_true, if_false, Bool.false_eq_true, Bool.true_eq_false, eq_self_iff_true,
  at_0, at_1, at_2, at_3, ix4_1, ix4_2, ix4_3, ix2_0, ix2_1, List.set_cons_zero, List.set_cons_succ, Bool.not_true, Bool.not_false, tyN, kb1, kb2, kb3, kb4, kb5, kb6, kb7, kb8, kb9, kb10, kb11, isNon, delVs, delV, oNeg, wFrz, frzD, ← List.map_append])
theorem draw_go2 {c : Cl} {p p2 : Addr} {n : Int} {S : Sto} {L : MO} {k0 : Hand} {Q : Qd} {X : XQ} (hne : p ≠ p2) (hk : HandOk k0) (hn : 0 < n ∧ n ≤ 100000) (h : ∀ r, 0 ≤ r → r < n → ∀ k, HandOk k → Q (.int r) (put (put S p (handMO k)) p2 L)) :
    sp__law_draw c [.ref p, .int n] (put (put S p (handMO k0)) p2 L) Q X :=
  draw_go ⟨k0, hk, by rw [put_ne hne, put_same]⟩ hn fun r h0 h1 k ok => by
    rw [put_comm (Ne.symm hne), put_put]
    exact h r h0 h1 k ok
theorem row_go2 {c : Cl} {p p2 : Addr} {al : List Int} {l m : Int} {S : Sto} {L : MO} {k0 : Hand} {Q : Qd} {X : XQ} (hne : p ≠ p2) (hk : HandOk k0) (ha : al ≠ [] ∧ al.length ≤ 1000) (hm : 1 ≤ l ∧ l ≤ 10 ∧ 0 ≤ m ∧ m ≤ 10)
    (h : ∀ r : List Int, r ≠ [] → r.length ≤ 20 → ∀ k, HandOk k → Q (dL r) (put (put S p (handMO k)) p2 L)) : sp__law_row c [.ref p, dL al, .int l, .int m] (put (put S p (handMO k0)) p2 L) Q X :=
  ⟨p, al, l, m, rfl, ⟨k0, hk, by rw [put_ne hne, put_same]⟩, ha, hm, fun r h0 h1 k ok => by
    rw [put_comm (Ne.symm hne), put_put]
    exact h r h0 h1 k ok⟩
theorem del_two {S : Sto} {p p2 : Addr} {L : MO} {k : MO} (hne : p ≠ p2) (h : S p2 = none) : del (put (put S p k) p2 L) p2 = put S p k := del_put (by rw [put_ne (Ne.symm hne)]; exact h)
theorem at_row {xs : List (List Int)} {i : Int} (h0 : 0 ≤ i) (h : i < xs.length) : ∃ x, x ∈ xs ∧ atI (xs.map dL) i = some (dL x) := by
  refine ⟨xs[i.toNat]'(by omega), List.getElem_mem _, ?_⟩
  unfold atI ixN
  rw [List.length_map, if_pos h0, if_pos h]
  show (xs.map dL)[i.toNat]? = _
  rw [List.getElem?_map, List.getElem?_eq_getElem (by omega)]; rfl
theorem cutI_le {xs : List Int} {a b : Option Int} : (cutI xs a b).length ≤ xs.length := by
  unfold cutI
  rw [List.length_take, List.length_drop]
  omega
theorem cut_first {e : List Int} (h : e ≠ []) : cutI e none (some 4) ≠ [] ∧ (cutI e none (some 4)).length ≤ 4 := by
  rw [cutI_to (by omega)]
  refine ⟨fun z => ?_, by rw [List.length_take]; omega⟩
  have := congrArg List.length z
  rw [List.length_take, List.length_nil] at this
  have h1 := List.length_pos_iff.mpr h
  omega
theorem endsOk_snoc {xs : List (List Int)} {e : List Int} {i : Nat} (h : xs.length = i ∧ ∀ s, s ∈ xs → s ≠ [] ∧ s.length ≤ 4) (he : e ≠ []) : (xs ++ [cutI e none (some 4)]).length = i + 1 ∧ ∀ s, s ∈ xs ++ [cutI e none (some 4)] → s ≠ [] ∧ s.length ≤ 4 := by
  refine ⟨by simp [h.1], fun s hs => ?_⟩
  rcases List.mem_append.mp hs with q | q
  · exact h.2 s q
  · rw [List.mem_singleton.mp q]
    exact cut_first he
theorem seq_k {w u : WPs} {env : DE} {S : Sto} {q : QS} (h : ∀ q1 : QS, (∀ e s, u e s q → q1.nx e s) → q1.rt = q.rt → q1.bk = q.bk → q1.ct = q.ct → q1.xc = q.xc → w env S q1) : wSeq w u env S q :=
  h { q with nx := fun e s => u e s q } (fun _ _ z => z) rfl rfl rfl rfl
theorem len__law_ends (c : Cl) : ∀ ds S Q E, sp__law_ends c ds S Q E → ds.length = 3 := by
  rintro ds S Q E ⟨_, _, _, rfl, _⟩; rfl
theorem rd__law_ends (c : Cl) : ∀ ds S Q X1, sp__law_ends c ds S Q X1 → w__law_ends c (startD N__law_ends_ ds) S (endQ Q X1) := by
  rintro ds S Q X1 ⟨p, al, m, rfl, hS, ⟨ha, ha2⟩, ⟨m1, m2⟩, h⟩
  show w__law_ends c [some (.ref p), some (dL al), some (.int m), none, none, none, none, none] S (endQ Q X1)
  obtain ⟨k0, ok0, hp⟩ := hS
  unfold w__law_ends
  simp only [wSeq, wSet, wLstM, wNil, setV]
  refine ⟨Nat.zero_le _, fun p2 hp2 => ?_⟩
  have hne : p ≠ p2 := ne_of_S hp hp2
  have e0 : put S p2 (.lst []) = put (put S p (handMO k0)) p2 (.lst []) := by rw [put_self hp]
  rw [e0]
  simp only [wFor, wRg1, wCall, wCons, wVar, wBin, wC, wNil, getV, some!, oAdd]
  refine draw_go2 hne ok0 (by omega) fun r r0 r1 k1 o1 => ?_
  refine ⟨by omega, ?_⟩
  refine forI_invq (fun i e S' => ∃ xs x4 x5 x6 x7 k, (xs.length = i ∧ ∀ s, s ∈ xs → s ≠ [] ∧ s.length ≤ 4) ∧ HandOk k ∧ S' = put (put S p (handMO k)) p2 (.lst (xs.map dL)) ∧ e = [some (.ref p), some (dL al), some (.int m), some (.ref p2), x4, x5, x6, x7]) ⟨[], _, _, _, _, k1, ⟨rfl, fun s h => by cases h⟩, o1, rfl, rfl⟩ (fun _ _ _ _ => trivial) ?_ ?_
  · rintro i d e S' hi ⟨xs, x4, x5, x6, x7, k, hx, ok, rfl, rfl⟩ q hq hrt hbk hct hxc
    obtain ⟨hlt, rfl⟩ := rngD_get hi
    have hxl : xs.length ≤ 9 := by omega
    have fin : ∀ (E : List Int) x6 x7 k x4, E ≠ [] → HandOk k → q.nx [some (.ref p), some (dL al), some (.int m), some (.ref p2), x4, some (.lst (E.map D.int)), x6, x7] (put (put S p (handMO k)) p2 (.lst (xs.map dL ++ [.lst ((cutI E none (some 4)).map D.int)]))) := fun E x6 x7 k x4 hE ok =>
      hq _ _ ⟨_, _, _, _, _, k, endsOk_snoc hx hE, ok, by rw [List.map_append]; rfl, rfl⟩
    refine seq_k fun q1 n1 _ _ _ _ => ?_
    walk_at "r"
    refine row_go2 hne ok ⟨ha, ha2⟩ (by omega) fun E hE hE2 k2 o2 => n1 _ _ ?_
    refine seq_k fun q1 n1 _ _ _ _ => ?_
    walk_at "r"
    refine draw_go2 hne o2 (by omega) fun way v0 v1 k3 o3 => n1 _ _ ?_
    refine seq_k fun q1 n1 _ _ _ _ => ?_
    have key : ∀ (E : List Int) x7 k, E ≠ [] → HandOk k → q1.nx [some (.ref p), some (dL al), some (.int m), some (.ref p2), some (.int (0 + (i : Int))), some (.lst (E.map D.int)), some (.int way), x7] (put (put S p (handMO k)) p2 (.lst (xs.map dL))) := fun E x7 k hE ok => by
      refine n1 _ _ ?_
      have := fin E (some (.int way)) x7 k (some (.int (0 + (i : Int)))) hE ok
      walk_at "r"
      exact ⟨by unfold sizeLine; omega, this⟩
    simp only [wIf, wTest, wBin, wCB, wCons, wNil, wVar, getV, some!, wC, oLen, one, seqA, seqL, seqM, put_same, oGt, oI0, List.length_map, decide_eq_true_eq]
    split
    · rename_i g
      refine seq_k fun q2 n2 _ _ _ _ => ?_
      walk_at "r"
      refine draw_go2 hne o3 (by omega) fun r2 r20 r21 k4 o4 => ?_
      obtain ⟨el, hel, ee⟩ := at_row (xs := xs) r20 r21
      have hel2 := hx.2 el hel
      walk_at "r"
      rw [ee]
      refine n2 _ _ ?_
      have hEl := List.length_pos_iff.mpr hE
      have hel3 := List.length_pos_iff.mpr hel2.1
      walk_at "r"
      split
      · refine ⟨by unfold sizeLine; omega, key _ _ _ (by simp [hE]) o4⟩
      · split
        · have c1 := cutI_le (xs := E) (a := none) (b := some 1)
          have c2 := cutI_le (xs := E) (a := some 1) (b := none)
          refine ⟨by unfold sizeLine; omega, by unfold sizeLine; rw [List.length_append]; omega, key _ _ _ ?_ o4⟩
          simp [hel2.1]
        · split
          · refine draw_go2 hne o4 (by omega) fun r3 r30 r31 k5 o5 => key _ _ _ ?_ o5
            rw [cutI_from r30]
            intro z
            have := congrArg List.length z
            rw [List.length_drop, List.length_nil] at this
            omega
          · split
            · have c1 := cutI_le (xs := E) (a := none) (b := some 1)
              have c2 := cutI_le (xs := el) (a := none) (b := some (-1))
              refine ⟨by unfold sizeLine; omega, key _ _ _ ?_ o4⟩
              intro z
              have := congrArg List.length z
              rw [List.length_append, List.length_nil, cutI_to (xs := E) (by omega), List.length_take] at this
              omega
            · exact key _ _ _ hE o4
    · exact key _ _ _ hE o3
  · rintro e S' ⟨xs, x4, x5, x6, x7, k, hx, ok, rfl, rfl⟩
    rw [rngD_length] at hx
    walk_at "r"
    rw [del_two hne hp2]
    exact h xs ⟨by omega, hx.2⟩ k ok
end K90
set_option Elab.async false
set_option linter.all false
set_option maxRecDepth 100000
set_option maxHeartbeats 1000000
namespace K90
open PySem PySem.Spec PyProof.Rows L2 DL
local macro_rules | `(tactic| walk_at "r") => `(tactic| try simp only [wSeq, wNext, wSet, wC, wFor, wIt, wRg1, wRg2, wVar, wIf, wAnd, wOr, wNot, wTest, wChain, wBin, wCB, wCons, wNil, wSl, wP, wNoP, wRet, wRetN, wDrop, wCall, wTup, wLst, wLstM, wUn, wIfE, wAndV, wOrV, wNotV, wIsi, wYes, wSetI, wSetF, wFld, wAugF, wMt, wMeth, wLc, wLcM, wBreak, xcQ, fldD, setD, setIx, mutL, isIns, stMO, put_same, put_put, oAppend, oExtend,
  getV, setV, some!, one, two, asI, oLen, oLt, oLe, oGt, oGe, oI0, oI, oSub, oMul, oMod, oDiv, oPow, oAdd, oCatL, oEq, oNe, oIsN, oNotN, oIx, oSl, oTuple, oList, oMax2, oMin2, oInt, gN, seqA, seqL, seqM, dT, dL, List.length_map, decide_eq_true_eq, shD_int, shD_bl, shD_lst, shD_tup, eqD_int, eqD_bl, eqD_lst, eqD_tup, cutD_int, true_and, and_true, if_true, if_false, Bool.false_eq_true, Bool.true_eq_false, eq_self_iff_true,
  at_0, at_1, at_2, at_3, ix4_1, ix4_2, ix4_3, ix2_0, ix2_1, List.set_cons_zero, List.set_cons_succ, Bool.not_true, Bool.not_false, tyN, kb1, kb2, kb3, kb4, kb5, kb6, kb7, kb8, kb9, kb10, kb11, isNon, delVs, delV, oNeg, wFrz, frzD, ← List.map_append])
theorem len__law_near (c : Cl) : ∀ ds S Q E, sp__law_near c ds S Q E → ds.length = 4 := by
  rintro ds S Q E ⟨_, _, _, _, rfl, _⟩; rfl
theorem rd__law_near (c : Cl) : ∀ ds S Q X1, sp__law_near c ds S Q X1 → w__law_near c (startD N__law_near_ ds) S (endQ Q X1) := by
  rintro ds S Q X1 ⟨p, ends, al, m, rfl, hS, ⟨he, he2⟩, ⟨ha, ha2⟩, ⟨m1, m2⟩, h⟩
  show w__law_near c [some (.ref p), some (dRows ends), some (dL al), some (.int m), none, none, none, none, none, none, none, none] S (endQ Q X1)
  obtain ⟨k0, ok0, hp⟩ := hS
  have hal := List.length_pos_iff.mpr ha
  unfold w__law_near
  simp only [wSeq, wSet, wLstM, wNil, setV]
  refine ⟨Nat.zero_le _, fun p2 hp2 => ?_⟩
  have hne : p ≠ p2 := ne_of_S hp hp2
  have e0 : put S p2 (.lst []) = put (put S p (handMO k0)) p2 (.lst []) := by rw [put_self hp]
  rw [e0]
  simp only [wFor, wRg1, wCall, wCons, wVar, wBin, wC, wNil, getV, some!, oAdd, asI]
  refine ⟨by omega, ?_⟩
  refine forI_invq (fun i e S' => ∃ tx : List Int, ∃ x5 x6 x7 x8 x9 x10 x11 k, tx.length = i ∧ HandOk k ∧ S' = put (put S p (handMO k)) p2 (.lst (tx.map D.int)) ∧ e = [some (.ref p), some (dRows ends), some (dL al), some (.int m), some (.ref p2), x5, x6, x7, x8, x9, x10, x11])
    ⟨[], _, _, _, _, _, _, _, k0, rfl, ok0, rfl, rfl⟩ (fun _ _ _ _ => trivial) ?_ ?_
  · rintro i d e S' hi ⟨tx, x5, x6, x7, x8, x9, x10, x11, k, hx, ok, rfl, rfl⟩ q hq hrt hbk hct hxc
    obtain ⟨hlt, rfl⟩ := rngD_get hi
    have hl := heldF_le ends tx
    have hxl : tx.length < 100 := by omega
    refine seq_k fun q1 n1 _ _ _ _ => ?_
    simp only [wSet, wCall, wCons, wVar, wNil, getV, some!, gN, setV]
    refine ⟨ends, _, tx, rfl, ?_, fun s hs => by have := (he2 s hs).2; omega, n1 _ _ ?_⟩
    · simp only [seqL, seqM, put_same]
    generalize heldF ends tx = hd at *
    refine seq_k fun q1 n1 _ _ _ _ => ?_
    walk_at "r"
    rw [cutI_end hl]
    refine n1 _ _ ?_
    refine seq_k fun q1 n1 _ _ _ _ => ?_
    simp only [wSet, wLc, wIt, wVar, getV, some!, dRows, seqA, seqL, seqM, delVs, delV, setV, List.length_map]
    refine ⟨by unfold sizeLine; omega, ?_⟩
    refine compI_inv (fun i acc S' => S' = put (put S p (handMO k)) p2 (.lst (tx.map D.int)) ∧ ∃ ns : List Int, acc = ns.map D.int ∧ ns.length ≤ i) ⟨rfl, [], rfl, Nat.zero_le _⟩ (fun _ _ _ _ => trivial) ?_ ?_
    · rintro i2 d acc S' hi2 ⟨rfl, ns, rfl, hns⟩
      rw [List.getElem?_map] at hi2
      obtain ⟨s, hs, rfl⟩ := Option.map_eq_some_iff.mp hi2
      walk_at "r"
      split
      · rename_i g1
        split
        · rename_i g2
          obtain ⟨x, hx, ee⟩ := at_mem (cells := s) (i := (hd : Int)) (by omega) (by omega)
          rw [ee]
          exact ⟨ns ++ [x], by simp, by simp [hns]⟩
        · exact ⟨ns, rfl, by omega⟩
      · exact ⟨ns, rfl, by omega⟩
    · rintro acc S' ⟨rfl, oo, rfl, hon⟩
      rw [List.length_map] at hon
      refine n1 _ _ ?_
      refine seq_k fun q1 n1 _ _ _ _ => ?_
      walk_at "r"
      refine draw_go2 hne ok (by omega) fun r r0 r1 k2 o2 => ?_
      obtain ⟨x, hxm, ee⟩ := at_mem (cells := al) r0 r1
      walk_at "r"
      rw [ee]
      refine n1 _ _ ?_
      refine seq_k fun q1 n1 _ _ _ _ => ?_
      walk_at "r"
      refine draw_go2 hne o2 (by omega) fun way v0 v1 k3 o3 => n1 _ _ ?_
      refine seq_k fun q1 n1 _ _ _ _ => ?_
      have key : ∀ (y : Int) x5 x6 x7 x8 x10 x11 k, HandOk k → q1.nx [some (.ref p), some (dRows ends), some (dL al), some (.int m), some (.ref p2), x5, x6, x7, x8, some (.int y), x10, x11] (put (put S p (handMO k)) p2 (.lst (tx.map D.int))) := fun y x5 x6 x7 x8 x10 x11 k ok => by
        refine n1 _ _ ?_
        have e : tx.map D.int ++ [D.int y] = (tx ++ [y]).map D.int := by simp
        walk_at "r"
        refine ⟨by unfold sizeLine; omega, ?_⟩
        rw [e]
        exact hq _ _ ⟨tx ++ [y], _, _, _, _, _, _, _, k, by simp [hx], ok, rfl, rfl⟩
      walk_at "r"
      split
      · exact draw_go2 hne o3 (by omega) fun r3 r30 r31 k5 o5 => key _ _ _ _ _ _ _ _ o5
      · split
        · split
          · refine draw_go2 hne o3 (by omega) fun r3 r30 r31 k5 o5 => ?_
            obtain ⟨y, hy, ey⟩ := at_mem (cells := oo) r30 r31
            walk_at "r"
            rw [ey]
            exact key _ _ _ _ _ _ _ _ o5
          · exact key _ _ _ _ _ _ _ _ o3
        · exact key _ _ _ _ _ _ _ _ o3
  · rintro e S' ⟨tx, x5, x6, x7, x8, x9, x10, x11, k, hx, ok, rfl, rfl⟩
    rw [rngD_length] at hx
    walk_at "r"
    rw [del_two hne hp2]
    exact h tx (by omega) k ok
theorem len__law_long (c : Cl) : ∀ ds S Q E, sp__law_long c ds S Q E → ds.length = 2 := by
  rintro ds S Q E ⟨_, _, rfl, _⟩; rfl
theorem rd__law_long (c : Cl) : ∀ ds S Q X1, sp__law_long c ds S Q X1 → w__law_long c (startD N__law_long_ ds) S (endQ Q X1) := by
  rintro ds S Q X1 ⟨p, al, rfl, hS, ⟨ha, ha2⟩, h⟩
  show w__law_long c [some (.ref p), some (dL al), none, none, none, none] S (endQ Q X1)
  obtain ⟨k0, ok0, hp⟩ := hS
  unfold w__law_long
  simp only [wSeq, wSet, wLstM, wNil, setV]
  refine ⟨Nat.zero_le _, fun p2 hp2 => ?_⟩
  have hne : p ≠ p2 := ne_of_S hp hp2
  have e0 : put S p2 (.lst []) = put (put S p (handMO k0)) p2 (.lst []) := by rw [put_self hp]
  rw [e0]
  simp only [wFor, wRg1, wCall, wCons, wVar, wBin, wC, wNil, getV, some!, oAdd]
  refine draw_go2 hne ok0 (by omega) fun r r0 r1 k1 o1 => ?_
  refine ⟨by omega, ?_⟩
  refine forI_invq (fun i e S' => ∃ xs x3 x4 x5 k, (xs.length = i ∧ ∀ s, s ∈ xs → s ≠ [] ∧ s.length ≤ 4) ∧ HandOk k ∧ S' = put (put S p (handMO k)) p2 (.lst (xs.map dL)) ∧ e = [some (.ref p), some (dL al), some (.ref p2), x3, x4, x5]) ⟨[], _, _, _, k1, ⟨rfl, fun s h => by cases h⟩, o1, rfl, rfl⟩ (fun _ _ _ _ => trivial) ?_ ?_
  · rintro i d e S' hi ⟨xs, x3, x4, x5, k, hx, ok, rfl, rfl⟩ q hq hrt hbk hct hxc
    obtain ⟨hlt, rfl⟩ := rngD_get hi
    have hxl : xs.length ≤ 9 := by omega
    have fin : ∀ (E : List Int) x3 x5 k, E ≠ [] → HandOk k → q.nx [some (.ref p), some (dL al), some (.ref p2), x3, some (.lst (E.map D.int)), x5] (put (put S p (handMO k)) p2 (.lst (xs.map dL ++ [.lst ((cutI E none (some 4)).map D.int)]))) := fun E x3 x5 k hE ok =>
      hq _ _ ⟨_, _, _, _, k, endsOk_snoc hx hE, ok, by rw [List.map_append]; rfl, rfl⟩
    refine seq_k fun q1 n1 _ _ _ _ => ?_
    walk_at "r"
    refine row_go2 hne ok ⟨ha, ha2⟩ (by omega) fun E hE hE2 k2 o2 => n1 _ _ ?_
    refine seq_k fun q1 n1 _ _ _ _ => ?_
    have key : ∀ (E : List Int) x5 k, E ≠ [] → HandOk k → q1.nx [some (.ref p), some (dL al), some (.ref p2), some (.int (0 + (i : Int))), some (.lst (E.map D.int)), x5] (put (put S p (handMO k)) p2 (.lst (xs.map dL))) := fun E x5 k hE ok => by
      refine n1 _ _ ?_
      have := fin E (some (.int (0 + (i : Int)))) x5 k hE ok
      walk_at "r"
      exact ⟨by unfold sizeLine; omega, this⟩
    simp only [wIf, wAnd, wTest, wBin, wCB, wCons, wNil, wVar, wCall, getV, some!, wC, oLen, one, seqA, seqL, seqM, put_same, oGt, oI0, List.length_map, decide_eq_true_eq]
    split
    · rename_i g
      refine draw_go2 hne o2 (by omega) fun w w0 w1 k3 o3 => ?_
      simp only [oEq, shD_int, eqD_int, true_and, decide_eq_true_eq]
      split
      · refine seq_k fun q2 n2 _ _ _ _ => ?_
        walk_at "r"
        refine draw_go2 hne o3 (by omega) fun r2 r20 r21 k4 o4 => ?_
        obtain ⟨el, hel, ee⟩ := at_row (xs := xs) r20 r21
        have hel2 := hx.2 el hel
        walk_at "r"
        rw [ee]
        refine n2 _ _ ?_
        have hEl := List.length_pos_iff.mpr hE
        have c1 := cutI_le (xs := E) (a := none) (b := some 2)
        have c2 := cutI_le (xs := el) (a := some 1) (b := none)
        walk_at "r"
        refine ⟨by unfold sizeLine; omega, key _ _ _ ?_ o4⟩
        intro z
        have := congrArg List.length z
        rw [List.length_append, List.length_nil, cutI_to (xs := E) (by omega), List.length_take] at this
        omega
      · exact key _ _ _ hE o3
    · exact key _ _ _ hE o2
  · rintro e S' ⟨xs, x3, x4, x5, k, hx, ok, rfl, rfl⟩
    rw [rngD_length] at hx
    walk_at "r"
    rw [del_two hne hp2]
    exact h xs ⟨by omega, hx.2⟩ k ok
end K90
set_option Elab.async false
set_option linter.all false
set_option maxRecDepth 100000
set_option maxHeartbeats 1000000
namespace K90
open PySem PySem.Spec PyProof.Rows L2 DL
local macro_rules | `(tactic| walk_at "r") => `(tactic| try simp only [wSeq, wNext, wSet, wC, wFor, wIt, wRg1, wRg2, wVar, wIf, wAnd, wOr, wNot, wTest, wChain, wBin, wCB, wCons, wNil, wSl, wP, wNoP, wRet, wRetN, wDrop, wCall, wTup, wLst, wLstM, wUn, wIfE, wAndV, wOrV, wNotV, wIsi, wYes, wSetI, wSetF, wFld, wAugF, wMt, wMeth, wLc, wLcM, wBreak, xcQ, fldD, setD, setIx, mutL, isIns, stMO, put_same, put_put, oAppend, oExtend,
  getV, setV, some!, one, two, asI, oLen, oLt, oLe, oGt, oGe, oI0, oI, oSub, oMul, oMod, oDiv, oPow, oAdd, oCatL, oEq, oNe, oIsN, oNotN, oIx, oSl, oTuple, oList, oMax2, oMin2, oInt, gN, seqA, seqL, seqM, dT, dL, List.length_map, decide_eq_true_eq, shD_int, shD_bl, shD_lst, shD_tup, eqD_int, eqD_bl, eqD_lst, eqD_tup, cutD_int, true_and, and_true, if_true, if_false, Bool.false_eq_true, Bool.true_eq_false, eq_self_iff_true,
  at_0, at_1, at_2, at_3, ix4_1, ix4_2, ix4_3, ix2_0, ix2_1, List.set_cons_zero, List.set_cons_succ, Bool.not_true, Bool.not_false, tyN, kb1, kb2, kb3, kb4, kb5, kb6, kb7, kb8, kb9, kb10, kb11, isNon, delVs, delV, oNeg, wFrz, frzD, ← List.map_append])
local macro_rules | `(tactic| walk_at "c") => `(tactic| try simp only [wSeq, wNext, wSet, wC, wVar, wIf, wAnd, wOr, wNot, wTest, wBin, wCB, wCons, wNil, wRet, wDrop, wCall, wMeth, wIfE, xcQ, getV, setV, some!, true_and, and_true, if_true, if_false, Bool.false_eq_true, Bool.true_eq_false, eq_self_iff_true, Bool.not_true, Bool.not_false])
theorem plain_dT {n : Nat} {xs : List Int} (h : xs.length ≤ 1000) : plain (n + 1) (dT xs) := by
  refine ⟨by rw [List.length_map]; exact h, fun x hx => ?_⟩
  obtain ⟨i, _, rfl⟩ := List.mem_map.mp hx
  cases n <;> trivial
theorem same_go {c : Cl} {d : D} {S : Sto} {Q : Qd} {X : XQ} (hp : plain 7 d) (h : Q (.bl true) S) : sp__law_same c [d, d] S Q X := ⟨d, rfl, hp, h⟩
theorem shD_rows {S : Sto} {xs : List (List Int)} : shD S (.lst (xs.map dL)) = true := shaped_of (n := 2) (okP_lst fun x hx => by
  obtain ⟨s, _, rfl⟩ := List.mem_map.mp hx
  exact okP_dL) (by decide)
theorem eqD_rows {S : Sto} {xs ys : List (List Int)} : eqD S (.lst (xs.map dL)) (.lst (ys.map dL)) = decide (xs = ys) := eqvAll_map eqv_dL xs ys
theorem cutD_rows {xs : List (List Int)} : cutD (xs.map dL) none (some 4) = (xs.take 4).map dL := by
  unfold DL.cutD
  rw [List.length_map, HT.sIx_none, sIx_pos (by decide), List.drop_zero, Nat.sub_zero, List.map_take]
  show List.take (min 4 xs.length) _ = _
  by_cases h : 4 ≤ xs.length
  · rw [Nat.min_eq_left h]
  · rw [Nat.min_eq_right (by omega), List.take_of_length_le (by simp), List.take_of_length_le (by simp; omega)]
def asTup (d : D) : Option D := match d with
  | .lst ys => some (.tup ys)
  | _ => none
theorem tup_rows {few : List (List Int)} : (few.map dL).filterMap asTup = few.map dT := by
  rw [List.filterMap_map]
  exact fm_map few fun e _ => rfl
theorem len__law_looked (c : Cl) : ∀ ds S Q E, sp__law_looked c ds S Q E → ds.length = 4 := by
  rintro ds S Q E ⟨_, _, _, _, _, rfl, _⟩; rfl
theorem rd__law_looked (c : Cl) : ∀ ds S Q X1, sp__law_looked c ds S Q X1 → w__law_looked c (startD N__law_looked_ ds) S (endQ Q X1) := by
  rintro ds S Q X1 ⟨a, t, u, xs, text, rfl, ⟨⟨z1, z2, z3⟩, ht, ⟨s, sent, stop, hA, hu, rfl, rfl, i1, i2⟩⟩, ⟨⟨hx, hx2⟩, hl⟩, h⟩
  show w__law_looked c [some (.ref a), some (dRows s.stops), some (.ref t), some (.ref u), none, none, none, none, none] S (endQ Q X1)
  have hb := heldF_le s.stops text
  have hld : s.held.length ≤ 1000 := by
    cases e : s.stop with
    | true => rw [(i1 e).1]; exact Nat.zero_le _
    | false => rw [(i2 e).2, List.length_drop]; omega
  have hAI : isIns c.Stopper N_Stopper S (.ref a) := by
    unfold isIns
    simp only [hA]
    exact ⟨rfl, rfl⟩
  unfold w__law_looked
  refine seq_k fun q1 n1 r1 _ _ _ => ?_
  walk_at "r"
  simp only [hu, ht]
  walk_at "r"
  have go : q1.nx [some (.ref a), some (dRows s.stops), some (.ref t), some (.ref u), some (dT s.held), none, none, none, none] S := by
    refine n1 _ _ ?_
    refine seq_k fun q1 n1 r1 _ _ _ => ?_
    walk_at "c"
    refine ⟨hAI, a, s, rfl, hA, ?_⟩
    simp only [oIx, seqA, seqL, seqM, hu, some!, at_1]
    refine same_go trivial ?_
    walk_at "c"
    refine ⟨hAI, a, s, rfl, hA, ?_⟩
    refine same_go (plain_dT hld) ?_
    walk_at "c"
    refine n1 _ _ ?_
    refine seq_k fun q2 n2 r2 _ _ _ => ?_
    walk_at "c"
    simp only [oIx, seqA, seqL, seqM, hu, some!, at_1]
    cases e : s.stop with
    | true =>
      simp only [if_true]
      rw [r2]
      exact h
    | false =>
      simp only [if_false, Bool.false_eq_true]
      refine n2 _ _ ?_
      refine seq_k fun q2 n2 r2 _ _ _ => ?_
      simp only [wSet, wSl, wVar, getV, some!, wNoP, wP, wC, oSl, dRows, seqL, seqM, setV, cutD_rows]
      refine n2 _ _ ?_
      generalize hfew : s.stops.take 4 = few
      have hf2 : ∀ e, e ∈ few → e.length ≤ 4 := fun e he => (hx2 e (List.mem_of_mem_take (hfew ▸ he))).2
      refine seq_k fun q2 n2 r2 _ _ _ => ?_
      walk_at "c"
      refine ⟨few, _, text, rfl, ?_, fun s hs => by have := hf2 s hs; omega, n2 _ _ ?_⟩
      · simp only [seqL, seqM, ht]
      refine seq_k fun q2 n2 r2 _ _ _ => ?_
      have hfl : few.length ≤ 10 := by rw [← hfew, List.length_take]; omega
      simp only [wSet, wLc, wIt, wVar, getV, some!, seqA, seqL, seqM, delVs, delV, setV, List.length_map]
      refine ⟨by unfold sizeLine; omega, compI_map (fun d => some d) trivial (fun d hd R hR => ?_) ?_⟩
      · obtain ⟨e, he, rfl⟩ := List.mem_map.mp hd
        walk_at "r"
        exact hR
      rw [List.filterMap_some]
      refine n2 _ _ ?_
      have hfh := heldF_le few text
      refine seq_k fun q2 n2 r2 _ _ _ => ?_
      walk_at "c"
      simp only [oTuple, one, seqA, seqL, seqM, ht, some!]
      refine ⟨false, false, true, few, text, rfl, by omega, fun s hs => by have := hf2 s hs; omega, ?_⟩
      refine same_go trivial ?_
      simp only [Bool.not_true, Bool.false_eq_true, if_false, oNe, shD_rows, eqD_rows, true_and, decide_true]
      refine n2 _ _ ?_
      simp only [wRet, wCall, wCB, wCons, wNil, wLc, wIt, wVar, getV, some!, seqA, seqL, seqM, delVs, delV, setV, List.length_map]
      refine ⟨by unfold sizeLine; omega, compI_map asTup trivial (fun d hd R hR => ?_) ?_⟩
      · obtain ⟨e, he, rfl⟩ := List.mem_map.mp hd
        walk_at "r"
        exact hR
      rw [tup_rows]
      simp only [oTuple, oList, one, seqA, seqL, seqM, ht, some!]
      refine ⟨true, true, false, few, text, rfl, by omega, fun s hs => by have := hf2 s hs; omega, ?_⟩
      refine same_go trivial ?_
      exact h
  cases e : s.stop with
  | true =>
    simp only [if_true]
    rw [(i1 e).1] at go
    exact ⟨Nat.zero_le _, go⟩
  | false =>
    simp only [if_false, Bool.false_eq_true]
    rw [(i2 e).1, cutI_end hb]
    rw [(i2 e).2] at go
    exact go
end K90
set_option Elab.async false
set_option linter.all false
set_option maxRecDepth 100000
set_option maxHeartbeats 1000000
namespace K90
open PySem PySem.Spec PyProof.Rows L2 DL
local macro_rules | `(tactic| walk_at "r") => `(tactic| try simp only [wSeq, wNext, wSet, wC, wFor, wIt, wRg1, wRg2, wVar, wIf, wAnd, wOr, wNot, wTest, wChain, wBin, wCB, wCons, wNil, wSl, wP, wNoP, wRet, wRetN, wDrop, wCall, wTup, wLst, wLstM, wUn, wIfE, wAndV, wOrV, wNotV, wIsi, wYes, wSetI, wSetF, wFld, wAugF, wMt, wMeth, wLc, wLcM, wBreak, xcQ, fldD, setD, setIx, mutL, isIns, stMO, put_same, put_put, oAppend, oExtend,
  getV, setV, some!, one, two, asI, oLen, oLt, oLe, oGt, oGe, oI0, oI, oSub, oMul, oMod, oDiv, oPow, oAdd, oCatL, oEq, oNe, oIsN, oNotN, oIx, oSl, oTuple, oList, oMax2, oMin2, oInt, gN, seqA, seqL, seqM, dT, dL, List.length_map, decide_eq_true_eq, shD_int, shD_bl, shD_lst, shD_tup, eqD_int, eqD_bl, eqD_lst, eqD_tup, cutD_int, true_and, and_true, if_true, if_false, Bool.false_eq_true, Bool.true_eq_false, eq_self_iff_true,
  at_0, at_1, at_2, at_3, ix4_1, ix4_2, ix4_3, ix2_0, ix2_1, List.set_cons_zero, List.set_cons_succ, Bool.not_true, Bool.not_false, tyN, kb1, kb2, kb3, kb4, kb5, kb6, kb7, kb8, kb9, kb10, kb11, isNon, delVs, delV, oNeg, wFrz, frzD, ← List.map_append])
local macro_rules | `(tactic| walk_at "c") => `(tactic| try simp only [wSeq, wNext, wSet, wC, wVar, wIf, wAnd, wOr, wNot, wTest, wBin, wCB, wCons, wNil, wRet, wDrop, wCall, wMeth, wIfE, xcQ, getV, setV, some!, true_and, and_true, if_true, if_false, Bool.false_eq_true, Bool.true_eq_false, eq_self_iff_true, Bool.not_true, Bool.not_false])
theorem len__law_read_on (c : Cl) : ∀ ds S Q E, sp__law_read_on c ds S Q E → ds.length = 5 := by
  rintro ds S Q E ⟨_, _, _, _, _, _, rfl, _⟩; rfl
theorem map_snoc {text : List Int} {l : Int} : text.map D.int ++ [D.int l] = (text ++ [l]).map D.int := by simp
theorem rd__law_read_on (c : Cl) : ∀ ds S Q X1, sp__law_read_on c ds S Q X1 → w__law_read_on c (startD N__law_read_on_ ds) S (endQ Q X1) := by
  rintro ds S Q X1 ⟨a, t, u, xs, text, l, rfl, ⟨⟨z1, z2, z3⟩, ht, ⟨s, sent, stop, hA, hu, rfl, rfl, i1, i2⟩⟩, ⟨⟨hx, hx2⟩, hl⟩, h⟩
  show w__law_read_on c [some (.ref a), some (dRows s.stops), some (.ref t), some (.ref u), some (.int l), none, none, none] S (endQ Q X1)
  have hb := heldF_le s.stops text
  have hld : s.held.length ≤ 1000 := by
    cases e : s.stop with
    | true => rw [(i1 e).1]; exact Nat.zero_le _
    | false => rw [(i2 e).2, List.length_drop]; omega
  have hst : ∀ t, t ∈ s.stops → t.length ≤ 1000 := fun t ht => by have := (hx2 t ht).2; omega
  unfold w__law_read_on
  refine seq_k fun q1 n1 _ _ _ _ => ?_
  walk_at "r"
  simp only [ht]
  walk_at "r"
  refine ⟨by unfold sizeLine; omega, ?_⟩
  rw [map_snoc]
  refine n1 _ _ ?_
  have hl' : (text ++ [l]).length = text.length + 1 := by simp
  have f1 := heldF_feed s.stops text l
  have f2 := stopF_feed s.stops text l
  have f3 := tail_app (l := l) hb
  have h1t : put S t (.lst ((text ++ [l]).map D.int)) t = some (.lst ((text ++ [l]).map D.int)) := put_same
  have h1u : put S t (.lst ((text ++ [l]).map D.int)) u = some (.lst [.int sent, .bl s.stop]) := by rw [put_ne (Ne.symm z3)]; exact hu
  have h1a : put S t (.lst ((text ++ [l]).map D.int)) a = some (stMO c s) := by rw [put_ne (Ne.symm z1)]; exact hA
  have h1o : ∀ b, b ≠ t → put S t (.lst ((text ++ [l]).map D.int)) b = S b := fun b hb => put_ne hb
  generalize put S t (.lst ((text ++ [l]).map D.int)) = S1 at *
  generalize htx : text ++ [l] = text' at *
  have hAI : ∀ S2 : Sto, S2 a = some (stMO c s) → isIns c.Stopper N_Stopper S2 (.ref a) := fun S2 h => by
    unfold isIns
    simp only [h]
    exact ⟨rfl, rfl⟩
  have sl := stopF_le s.stops text'
  have kl := heldF_le s.stops text'
  refine seq_k fun q1 n1 _ _ _ _ => ?_
  walk_at "r"
  refine ⟨Nat.zero_le _, n1 _ _ ?_⟩
  refine seq_k fun q1 n1 _ _ _ _ => ?_
  simp only [wIf, wNot, wTest, wBin, wVar, wC, getV, some!, oIx, seqA, seqL, seqM, h1u, at_1]
  cases e : s.stop with
  | true =>
    simp only [Bool.not_true, Bool.false_eq_true, if_false]
    refine n1 _ _ ?_
    walk_at "c"
    have ef : feedF s l = ([], s) := by unfold feedF; rw [if_pos e]
    refine ⟨hAI S1 h1a, a, s, l, rfl, h1a, ⟨hld, hst⟩, ?_⟩
    rw [ef]
    refine same_go (plain_dT (xs := []) (Nat.zero_le _)) ?_
    rw [put_self h1a]
    refine h S1 ⟨⟨z1, z2, z3⟩, h1t, s, sent, s.stop, h1a, h1u, rfl, rfl, i1, fun q => absurd (e.symm.trans q) (by decide)⟩ fun b b1 b2 b3 => h1o b b2
  | false =>
    obtain ⟨e1, e2⟩ := i2 e
    rw [e] at h1u
    simp only [Bool.not_false, if_true]
    refine seq_k fun q2 n2 _ _ _ _ => ?_
    walk_at "c"
    refine ⟨s.stops, _, text', rfl, ?_, n2 _ _ ?_⟩
    · simp only [seqL, seqM, h1t]
    refine seq_k fun q2 n2 _ _ _ _ => ?_
    simp only [wSetI, wBin, wVar, wC, getV, some!, oGt, oI0, setIx, h1u, ix2_1, List.set_cons_zero, List.set_cons_succ]
    refine n2 _ _ ?_
    generalize hcut : stopF s.stops text' = cut at *
    by_cases hc : 0 < cut
    · have hd : decide ((0 : Int) < (cut : Int)) = true := decide_eq_true (by omega)
      rw [hd]
      have h2t : put S1 u (.lst [.int sent, .bl true]) t = some (.lst (text'.map D.int)) := by rw [put_ne z3]; exact h1t
      have h2u : put S1 u (.lst [.int sent, .bl true]) u = some (.lst [.int sent, .bl true]) := put_same
      have h2a : put S1 u (.lst [.int sent, .bl true]) a = some (stMO c s) := by rw [put_ne (Ne.symm z2)]; exact h1a
      have h2o : ∀ b, b ≠ t → b ≠ u → put S1 u (.lst [.int sent, .bl true]) b = S b := fun b hb hb2 => by rw [put_ne hb2]; exact h1o b hb
      generalize put S1 u (.lst [.int sent, .bl true]) = S2 at *
      refine seq_k fun q2 n2 _ _ _ _ => ?_
      walk_at "r"
      simp only [h2t, h2u]
      walk_at "r"
      refine n2 _ _ ?_
      refine seq_k fun q2 n2 _ _ _ _ => ?_
      walk_at "r"
      simp only [h2t, h2u]
      walk_at "r"
      rw [cutI_both (by omega) (by omega)]
      refine n2 _ _ ?_
      walk_at "r"
      simp only [h2u]
      walk_at "r"
      refine n1 _ _ ?_
      walk_at "c"
      have h3a : put S2 u (.lst [.int ((text'.length : Int) - (cut : Int)), .bl true]) a = some (stMO c s) := by rw [put_ne (Ne.symm z2)]; exact h2a
      have ef : feedF s l = ((s.held ++ [l]).take ((s.held ++ [l]).length - cut), ⟨s.stops, [], s.many + (((s.held ++ [l]).length : Int) - (cut : Int)), true⟩) := by
        unfold feedF
        rw [if_neg (by rw [e]; decide), e2]
        dsimp only
        rw [f2]
        exact if_pos hc
      refine ⟨hAI _ h3a, a, s, l, rfl, h3a, ⟨hld, hst⟩, ?_⟩
      have ed : (text'.drop sent.toNat).take (((text'.length : Int) - (cut : Int)).toNat - sent.toNat) = (feedF s l).1 := by
        rw [ef]
        show _ = (s.held ++ [l]).take _
        rw [e2, f3]
        have e3 : sent.toNat = text'.length - (heldF s.stops text + 1) := by omega
        rw [e3]
        congr 1
        rw [List.length_drop]
        omega
      have ep : plain 7 (dT (feedF s l).1) := plain_dT (by rw [← ed, List.length_take, List.length_drop]; omega)
      show sp__law_same c [dT (feedF s l).1, dT ((text'.drop sent.toNat).take (((text'.length : Int) - (cut : Int)).toNat - sent.toNat))] _ _ _
      rw [ed]
      refine same_go ep ?_
      rw [ef]
      refine h _ ⟨⟨z1, z2, z3⟩, ?_, _, (text'.length : Int) - (cut : Int), true, put_same, ?_, rfl, rfl, fun _ => ⟨rfl, by omega⟩, fun q => absurd q (by decide)⟩ fun b b1 b2 b3 => ?_
      · rw [put_ne z1, put_ne z3]; exact h2t
      · rw [put_ne z2]; exact put_same
      · rw [put_ne b1, put_ne b3]; exact h2o b b2 b3
    · have hc0 : cut = 0 := by omega
      have hd : decide ((0 : Int) < (cut : Int)) = false := decide_eq_false (by omega)
      rw [hd]
      have h2t : put S1 u (.lst [.int sent, .bl false]) t = some (.lst (text'.map D.int)) := by rw [put_ne z3]; exact h1t
      have h2u : put S1 u (.lst [.int sent, .bl false]) u = some (.lst [.int sent, .bl false]) := put_same
      have h2a : put S1 u (.lst [.int sent, .bl false]) a = some (stMO c s) := by rw [put_ne (Ne.symm z2)]; exact h1a
      have h2o : ∀ b, b ≠ t → b ≠ u → put S1 u (.lst [.int sent, .bl false]) b = S b := fun b hb hb2 => by rw [put_ne hb2]; exact h1o b hb
      generalize put S1 u (.lst [.int sent, .bl false]) = S2 at *
      refine seq_k fun q2 n2 _ _ _ _ => ?_
      walk_at "r"
      simp only [h2t, h2u]
      walk_at "r"
      refine ⟨s.stops, _, text', rfl, ?_, fun s1 hs => by have := hst s1 hs; omega, n2 _ _ ?_⟩
      · simp only [seqL, seqM, h2t]
      generalize hk : heldF s.stops text' = keep at *
      refine seq_k fun q2 n2 _ _ _ _ => ?_
      walk_at "r"
      simp only [h2t, h2u]
      walk_at "r"
      rw [cutI_both (by omega) (by omega)]
      refine n2 _ _ ?_
      walk_at "r"
      simp only [h2u]
      walk_at "r"
      refine n1 _ _ ?_
      walk_at "c"
      have h3a : put S2 u (.lst [.int ((text'.length : Int) - (keep : Int)), .bl false]) a = some (stMO c s) := by rw [put_ne (Ne.symm z2)]; exact h2a
      have ef : feedF s l = ((s.held ++ [l]).take ((s.held ++ [l]).length - keep), ⟨s.stops, (s.held ++ [l]).drop ((s.held ++ [l]).length - keep), s.many + (((s.held ++ [l]).length : Int) - (keep : Int)), false⟩) := by
        unfold feedF
        rw [if_neg (by rw [e]; decide), e2]
        dsimp only
        rw [f2, f1, if_neg hc, e]
      refine ⟨hAI _ h3a, a, s, l, rfl, h3a, ⟨hld, hst⟩, ?_⟩
      have ed : (text'.drop sent.toNat).take (((text'.length : Int) - (keep : Int)).toNat - sent.toNat) = (feedF s l).1 := by
        rw [ef]
        show _ = (s.held ++ [l]).take _
        rw [e2, f3]
        have e3 : sent.toNat = text'.length - (heldF s.stops text + 1) := by omega
        rw [e3]
        congr 1
        rw [List.length_drop]
        omega
      have ep : plain 7 (dT (feedF s l).1) := plain_dT (by rw [← ed, List.length_take, List.length_drop]; omega)
      show sp__law_same c [dT (feedF s l).1, dT ((text'.drop sent.toNat).take (((text'.length : Int) - (keep : Int)).toNat - sent.toNat))] _ _ _
      rw [ed]
      refine same_go ep ?_
      rw [ef]
      refine h _ ⟨⟨z1, z2, z3⟩, ?_, _, (text'.length : Int) - (keep : Int), false, put_same, ?_, rfl, rfl, fun q => absurd q (by decide), fun _ => ⟨by rw [hk], ?_⟩⟩ fun b b1 b2 b3 => ?_
      · rw [put_ne z1, put_ne z3]; exact h2t
      · rw [put_ne z2]; exact put_same
      · show (s.held ++ [l]).drop _ = _
        rw [e2, f3, hk]
        have e4 : keep ≤ heldF s.stops text + 1 := by
          have := heldF_le s.stops (text.drop (text.length - heldF s.stops text) ++ [l])
          rw [f1, List.length_append, List.length_drop, List.length_singleton] at this
          omega
        have e5 : (text'.drop (text'.length - (heldF s.stops text + 1))).length = heldF s.stops text + 1 := by rw [List.length_drop]; omega
        rw [e5, drop_tail (by omega) e4]
      · rw [put_ne b1, put_ne b3]; exact h2o b b2 b3
end K90
set_option Elab.async false
set_option linter.all false
set_option maxRecDepth 100000
set_option maxHeartbeats 1000000
namespace K90
open PySem PySem.Spec PyProof.Rows L2 DL
local macro_rules | `(tactic| walk_at "r") => `(tactic| try simp only [wSeq, wNext, wSet, wC, wFor, wIt, wRg1, wRg2, wVar, wIf, wAnd, wOr, wNot, wTest, wChain, wBin, wCB, wCons, wNil, wSl, wP, wNoP, wRet, wRetN, wDrop, wCall, wTup, wLst, wLstM, wUn, wIfE, wAndV, wOrV, wNotV, wIsi, wYes, wSetI, wSetF, wFld, wAugF, wMt, wMeth, wLc, wLcM, wBreak, xcQ, fldD, setD, setIx, mutL, isIns, stMO, put_same, put_put, oAppend, oExtend,
  getV, setV, some!, one, two, asI, oLen, oLt, oLe, oGt, oGe, oI0, oI, oSub, oMul, oMod, oDiv, oPow, oAdd, oCatL, oEq, oNe, oIsN, oNotN, oIx, oSl, oTuple, oList, oMax2, oMin2, oInt, gN, seqA, seqL, seqM, dT, dL, List.length_map, decide_eq_true_eq, shD_int, shD_bl, shD_lst, shD_tup, eqD_int, eqD_bl, eqD_lst, eqD_tup, cutD_int, true_and, and_true, if_true, if_false, Bool.false_eq_true, Bool.true_eq_false, eq_self_iff_true,
  at_0, at_1, at_2, at_3, ix4_1, ix4_2, ix4_3, ix2_0, ix2_1, List.set_cons_zero, List.set_cons_succ, Bool.not_true, Bool.not_false, tyN, kb1, kb2, kb3, kb4, kb5, kb6, kb7, kb8, kb9, kb10, kb11, isNon, delVs, delV, oNeg, wFrz, frzD, ← List.map_append])
local macro_rules | `(tactic| walk_at "c") => `(tactic| try simp only [wSeq, wNext, wSet, wC, wVar, wIf, wAnd, wOr, wNot, wTest, wBin, wCB, wCons, wNil, wRet, wDrop, wCall, wMeth, wIfE, xcQ, getV, setV, some!, true_and, and_true, if_true, if_false, Bool.false_eq_true, Bool.true_eq_false, eq_self_iff_true, Bool.not_true, Bool.not_false])
theorem fold_take {α β : Type} (f : β → α → β) (a : β) {xs : List α} {i : Nat} {x : α} (h : xs[i]? = some x) : (xs.take (i + 1)).foldl f a = f ((xs.take i).foldl f a) x := by
  rw [List.take_add_one, h]; simp
def fed1 (r : List (List Int) × Stp3) (l : Int) : List (List Int) × Stp3 := (r.1 ++ [(feedF r.2 l).1], (feedF r.2 l).2)
/-- letters fed one after the other: what is handed on, the Stopper then -/
def fedAll (s : Stp3) (ls : List Int) : List (List Int) × Stp3 := ls.foldl fed1 ([], s)
theorem feedF_stops (s : Stp3) (l : Int) : (feedF s l).2.stops = s.stops := by
  unfold feedF
  split
  · rfl
  · dsimp only
    split <;> rfl
theorem feedF_held (s : Stp3) (l : Int) : (feedF s l).2.held.length ≤ s.held.length + 1 := by
  unfold feedF
  split
  · exact Nat.le_succ _
  · dsimp only
    split
    · exact Nat.zero_le _
    · dsimp only
      rw [List.length_drop, List.length_append, List.length_singleton]
      omega
theorem feed_go2 {c : Cl} {x p : Addr} {s : Stp3} {l : Int} {S : Sto} {L : MO} {Q : Qd} {X : XQ} (hne : x ≠ p) (h1 : s.held.length ≤ 1000) (h2 : ∀ t, t ∈ s.stops → t.length ≤ 1000)
    (h : Q (dT (feedF s l).1) (put (put S x (stMO c (feedF s l).2)) p L)) : sp_Stopper_feed c [.ref x, .int l] (put (put S x (stMO c s)) p L) Q X :=
  ⟨x, s, l, rfl, by rw [put_ne hne, put_same], ⟨h1, h2⟩, by rw [put_comm (Ne.symm hne), put_put]; exact h⟩
theorem ins_go2 {c : Cl} {x p : Addr} {s : Stp3} {S : Sto} {L : MO} (hne : x ≠ p) : isIns c.Stopper N_Stopper (put (put S x (stMO c s)) p L) (.ref x) := by
  have e : put (put S x (stMO c s)) p L x = some (stMO c s) := by rw [put_ne hne, put_same]
  unfold isIns
  simp only [e]
  exact ⟨rfl, rfl⟩
theorem ins_go1 {c : Cl} {x : Addr} {s : Stp3} {S : Sto} : isIns c.Stopper N_Stopper (put S x (stMO c s)) (.ref x) := by
  have e : put S x (stMO c s) x = some (stMO c s) := put_same
  unfold isIns
  simp only [e]
  exact ⟨rfl, rfl⟩
theorem feed_loop {c : Cl} {x p : Addr} {s : Stp3} {S : Sto} {L : List D} {ls : List Int} {y z : Option D} {q : QS} (hne : x ≠ p) (h1 : s.held.length + ls.length ≤ 1000) (h2 : ∀ t, t ∈ s.stops → t.length ≤ 1000) (h3 : L.length ≤ 1000)
    (h : ∀ y, q.nx [some (.ref x), some (.ref p), y, z] (put (put S x (stMO c (fedAll s ls).2)) p (.lst (L ++ (fedAll s ls).1.map dT)))) {g : Sto → Prop} (hg : ∀ S, g S) :
    forI (gN 2) (wDrop (wMt oAppend (wVar 1) (wCons (wMeth c.Stopper N_Stopper (sp_Stopper_feed c) (wVar 0) (wCons (wVar 2) wNil)) wNil))) g (ls.map D.int) [some (.ref x), some (.ref p), y, z] (put (put S x (stMO c s)) p (.lst L)) q := by
  refine forI_invq (fun i e S' => ∃ y o s', fedAll s (ls.take i) = (o, s') ∧ s'.stops = s.stops ∧ s'.held.length ≤ s.held.length + i ∧ o.length = i ∧ e = [some (.ref x), some (.ref p), y, z] ∧ S' = put (put S x (stMO c s')) p (.lst (L ++ o.map dT)))
    ⟨y, [], s, rfl, rfl, Nat.le_refl _, rfl, rfl, by simp⟩ (fun _ _ _ _ => hg _) ?_ ?_
  · rintro i d e S' hi ⟨y, o, s', e1, e2, e3, e4, rfl, rfl⟩ q hq hrt hbk hct hxc
    rw [List.getElem?_map] at hi
    obtain ⟨l, hl, rfl⟩ := Option.map_eq_some_iff.mp hi
    have hlt := lt_of_some hl
    have key := fold_take fed1 ([], s) hl
    change fedAll s (ls.take (i + 1)) = fed1 (fedAll s (ls.take i)) l at key
    rw [e1] at key
    simp only [wDrop, wMt, wMeth, wVar, wCons, wNil, getV, some!, gN, setV, mutL, put_same, oAppend, one]
    refine ⟨ins_go2 hne, feed_go2 hne (by omega) (by rw [e2]; exact h2) ?_⟩
    simp only [put_same, put_put]
    refine ⟨by rw [List.length_append, List.length_map]; unfold sizeLine; omega, hq _ _ ⟨_, o ++ [(feedF s' l).1], (feedF s' l).2, key, (feedF_stops _ _).trans e2, ?_, by simp [e4], rfl, ?_⟩⟩
    · have := feedF_held s' l; omega
    · simp
  · rintro e S' ⟨y, o, s', e1, e2, e3, e4, rfl, rfl⟩
    rw [List.length_map, List.take_length] at e1
    have := h y
    rw [e1] at this
    exact this
def st0 : Stp3 := ⟨[[1, 1, 2, 1], [1, 2, 2], [2, 2]], [], 0, false⟩
theorem fed_a : (fedAll st0 [1, 1, 1, 2, 0, 1, 1, 2]).1 = [[], [], [1], [], [1, 1, 2, 0], [], [], []] ∧ (fedAll st0 [1, 1, 1, 2, 0, 1, 1, 2]).2.held = [1, 1, 2] ∧ (fedAll st0 [1, 1, 1, 2, 0, 1, 1, 2]).2.stops = [[1, 1, 2, 1], [1, 2, 2], [2, 2]] := by decide +kernel
theorem fed_b : (fedAll (fedAll st0 [1, 1, 1, 2, 0, 1, 1, 2]).2 [2, 2, 3]).1 = [[1], [], []] ∧ (fedAll (fedAll st0 [1, 1, 1, 2, 0, 1, 1, 2]).2 [2, 2, 3]).2.held = [] ∧ (fedAll (fedAll st0 [1, 1, 1, 2, 0, 1, 1, 2]).2 [2, 2, 3]).2.stop = true := by decide +kernel
theorem hb3 : heldF [[1, 1, 2, 1], [1, 2, 2]] [1, 1, 2] = 3 := by decide +kernel
theorem plain_closing : plain 7 (.tup [dT [], .bl false, dT [], dT [], dT [1], dT [], dT [1, 1, 2, 0], dT [], dT [], dT [], dT [1, 1, 2], dT [1], dT [], dT [], .bl true, dT [], .int 3]) := by
  refine ⟨by decide, fun x hx => ?_⟩
  have e : ∀ xs : List Int, xs.length ≤ 1000 → plain 6 (dT xs) := fun xs h => plain_dT h
  simp only [List.mem_cons, List.not_mem_nil, or_false] at hx
  rcases hx with rfl | rfl | rfl | rfl | rfl | rfl | rfl | rfl | rfl | rfl | rfl | rfl | rfl | rfl | rfl | rfl | rfl
  all_goals first | exact e _ (by decide) | trivial
theorem len__law_closing (c : Cl) : ∀ ds S Q E, sp__law_closing c ds S Q E → ds.length = 0 := by
  rintro ds S Q E ⟨rfl, _⟩; rfl
theorem rd__law_closing (c : Cl) : ∀ ds S Q X1, sp__law_closing c ds S Q X1 → w__law_closing c (startD N__law_closing_ ds) S (endQ Q X1) := by
  rintro ds S Q X1 ⟨rfl, h⟩
  show w__law_closing c [none, none, none, none] S (endQ Q X1)
  have z4 : ∀ (xs : List D), xs.length ≤ 1000 → xs.length ≤ sizeLine := fun xs h => by unfold sizeLine; omega
  unfold w__law_closing
  refine seq_k fun q1 n1 _ _ _ _ => ?_
  simp only [wSet, wMake, wLst, wTup, wCons, wNil, wC, setV]
  refine ⟨z4 _ (by decide), z4 _ (by decide), z4 _ (by decide), z4 _ (by decide), fun x hx => ?_⟩
  refine ⟨x, _, [[1, 1, 2, 1], [1, 2, 2], [2, 2]], rfl, put_same, ⟨⟨_, rfl, rfl, ?_⟩, by decide⟩, rfl, ?_⟩
  · intro i e s h1 h2
    match i with
    | 0 => cases h1; cases h2; rfl
    | 1 => cases h1; cases h2; rfl
    | 2 => cases h1; cases h2; rfl
    | n + 3 => cases h1
  rw [put_put]
  refine n1 _ _ ?_
  refine seq_k fun q1 n1 _ _ _ _ => ?_
  simp only [wSet, wLstM, wMeth, wCons, wNil, wVar, getV, some!, setV]
  refine ⟨ins_go1, x, st0, rfl, put_same, ins_go1, x, st0, rfl, put_same, z4 _ (by show 2 ≤ 1000; decide), fun p hp => n1 _ _ ?_⟩
  have hne : x ≠ p := ne_of_S put_same hp
  refine seq_k fun q1 n1 _ _ _ _ => ?_
  simp only [wFor, wIt, wTup, wCons, wNil, wC, seqA, some!]
  refine ⟨z4 _ (by decide), ?_⟩
  refine feed_loop (ls := [1, 1, 1, 2, 0, 1, 1, 2]) (s := st0) hne (by decide) (by decide) (by show 2 ≤ 1000; decide) (fun y => ?_) (fun _ => trivial)
  rw [fed_a.1]
  obtain ⟨b1, b2, b3⟩ := fed_b
  obtain ⟨_, a2, a3⟩ := fed_a
  generalize (fedAll st0 [1, 1, 1, 2, 0, 1, 1, 2]).2 = s1 at *
  refine n1 _ _ ?_
  refine seq_k fun q1 n1 _ _ _ _ => ?_
  simp only [wDrop, wMt, wMeth, wVar, wCons, wNil, getV, some!, mutL, put_same, oAppend, one]
  refine ⟨ins_go2 hne, x, s1, rfl, by rw [put_ne hne, put_same], ?_⟩
  simp only [put_same, put_put]
  refine ⟨by show 10 < sizeLine; decide, n1 _ _ ?_⟩
  refine seq_k fun q1 n1 _ _ _ _ => ?_
  simp only [wFor, wIt, wTup, wCons, wNil, wC, seqA, some!]
  refine ⟨z4 _ (by decide), ?_⟩
  refine feed_loop (ls := [2, 2, 3]) (s := s1) hne (by rw [a2]; decide) (by rw [a3]; decide) (by show 11 ≤ 1000; decide) (fun y => ?_) (fun _ => trivial)
  rw [b1]
  generalize (fedAll s1 [2, 2, 3]).2 = s2 at *
  refine n1 _ _ ?_
  refine seq_k fun q1 n1 _ _ _ _ => ?_
  simp only [wDrop, wMt, wMeth, wCall, wLst, wTup, wVar, wCons, wNil, wC, getV, some!, mutL, put_same, oExtend, one]
  refine ⟨ins_go2 hne, x, s2, rfl, by rw [put_ne hne, put_same], ins_go2 hne, x, s2, rfl, by rw [put_ne hne, put_same], ?_⟩
  refine ⟨z4 _ (by decide), z4 _ (by decide), z4 _ (by decide), z4 _ (by decide), true, true, true, [[1, 1, 2, 1], [1, 2, 2]], [1, 1, 2], rfl, by decide, by decide, ?_⟩
  rw [hb3]
  simp only [put_same, put_put, seqM]
  refine ⟨z4 _ (by show 3 ≤ 1000; decide), by show 17 ≤ sizeLine; decide, n1 _ _ ?_⟩
  generalize hS : put S x (stMO c s2) = S3
  refine seq_k fun q1 n1 _ _ _ _ => ?_
  simp only [wSet, wLstM, wTup, wVar, wCons, wNil, wC, setV]
  refine ⟨z4 _ (by decide), z4 _ (by decide), z4 _ (by decide), z4 _ (by decide), z4 _ (by decide), z4 _ (by decide), z4 _ (by decide), z4 _ (by decide), z4 _ (by decide), z4 _ (by decide), z4 _ (by show 11 ≤ 1000; decide), fun p3 hp3 => n1 _ _ ?_⟩
  have hne3 : p ≠ p3 := ne_of_S put_same hp3
  refine seq_k fun q1 n1 _ _ _ _ => ?_
  simp only [wDrop, wMt, wLst, wTup, wVar, wCons, wNil, wC, getV, some!, mutL, put_same, put_put, oExtend, one, seqM]
  refine ⟨z4 _ (by decide), z4 _ (by decide), z4 _ (by decide), z4 _ (by decide), z4 _ (by show 6 ≤ 1000; decide), by show 17 ≤ sizeLine; decide, n1 _ _ ?_⟩
  have e1 : ∀ L3, put (put S3 p (.lst ([dT st0.held, .bl st0.stop] ++ List.map dT [[], [], [1], [], [1, 1, 2, 0], [], [], []] ++ [dT s1.held] ++ List.map dT [[1], [], []] ++ [.bl s2.stop, dT s2.held, .int ((3 : Nat) : Int)]))) p3 L3 p = some (.lst ([dT st0.held, .bl st0.stop] ++ List.map dT [[], [], [1], [], [1, 1, 2, 0], [], [], []] ++ [dT s1.held] ++ List.map dT [[1], [], []] ++ [.bl s2.stop, dT s2.held, .int ((3 : Nat) : Int)])) := fun L3 => by rw [put_ne hne3, put_same]
  simp only [wRet, wCall, wCB, wCons, wNil, wVar, getV, some!, oTuple, one, seqA, seqL, seqM, e1, put_same]
  rw [b2, b3, a2]
  exact same_go plain_closing (h _)
end K90
set_option Elab.async false
set_option linter.all false
set_option maxRecDepth 100000
set_option maxHeartbeats 1000000
namespace K90
open PySem PySem.Spec PyProof.Rows L2 DL
local macro_rules | `(tactic| walk_at "r") => `(tactic| try simp only [wSeq, wNext, wSet, wC, wFor, wIt, wRg1, wRg2, wVar, wIf, wAnd, wOr, wNot, wTest, wChain, wBin, wCB, wCons, wNil, wSl, wP, wNoP, wRet, wRetN, wDrop, wCall, wTup, wLst, wLstM, wUn, wIfE, wAndV, wOrV, wNotV, wIsi, wYes, wSetI, wSetF, wFld, wAugF, wMt, wMeth, wLc, wLcM, wBreak, xcQ, fldD, setD, setIx, mutL, isIns, stMO, put_same, put_put, oAppend, oExtend,
  getV, setV, some!, one, two, asI, oLen, oLt, oLe, oGt, oGe, oI0, oI, oSub, oMul, oMod, oDiv, oPow, oAdd, oCatL, oEq, oNe, oIsN, oNotN, oIx, oSl, oTuple, oList, oMax2, oMin2, oInt, gN, seqA, seqL, seqM, dT, dL, List.length_map, decide_eq_true_eq, shD_int, shD_bl, shD_lst, shD_tup, eqD_int, eqD_bl, eqD_lst, eqD_tup, cutD_int, true_and, and_true, if_true, if_false, Bool.false_eq_true, Bool.true_eq_false, eq_self_iff_true,
  at_0, at_1, at_2, at_3, ix4_1, ix4_2, ix4_3, ix2_0, ix2_1, List.set_cons_zero, List.set_cons_succ, Bool.not_true, Bool.not_false, tyN, kb1, kb2, kb3, kb4, kb5, kb6, kb7, kb8, kb9, kb10, kb11, isNon, delVs, delV, oNeg, wFrz, frzD, ← List.map_append])
local macro_rules | `(tactic| walk_at "c") => `(tactic| try simp only [wSeq, wNext, wSet, wC, wVar, wIf, wAnd, wOr, wNot, wTest, wBin, wCB, wCons, wNil, wRet, wDrop, wCall, wMeth, wIfE, xcQ, getV, setV, some!, true_and, and_true, if_true, if_false, Bool.false_eq_true, Bool.true_eq_false, eq_self_iff_true, Bool.not_true, Bool.not_false])
/-- the store's objects, none twice -/
structure Hs (S : Sto) (M : List (Addr × MO)) : Prop where
  nd : (M.map Prod.fst).Nodup
  is : ∀ x, x ∈ M → S x.1 = some x.2
section
variable {S : Sto} {M M1 M2 : List (Addr × MO)} {q a : Addr} {m m0 : MO}
theorem Hs.nil : Hs S [] := ⟨List.nodup_nil, fun _ h => by cases h⟩
theorem Hs.fresh (h : Hs S M) (hq : S q = none) : ∀ x, x ∈ M → x.1 ≠ q := fun x hx e => by
  have := h.is x hx
  rw [e, hq] at this
  cases this
theorem Hs.other (h : Hs S M) (hq : ∀ x, x ∈ M → x.1 ≠ q) : Hs (put S q m) M := ⟨h.nd, fun x hx => by rw [put_ne (hq x hx)]; exact h.is x hx⟩
theorem Hs.new (h : Hs S M) (hq : S q = none) : Hs (put S q m) (M ++ [(q, m)]) := by
  have f := h.fresh hq
  refine ⟨?_, fun x hx => ?_⟩
  · rw [List.map_append]
    refine List.nodup_append.mpr ⟨h.nd, by simp, fun a ha b hb => ?_⟩
    obtain ⟨x, hx, rfl⟩ := List.mem_map.mp ha
    simp at hb
    rw [hb]
    exact f x hx
  · rcases List.mem_append.mp hx with z | z
    · rw [put_ne (f x z)]; exact h.is x z
    · rw [List.mem_singleton.mp z]; exact put_same
theorem Hs.set (h : Hs S (M1 ++ (a, m0) :: M2)) : Hs (put S a m) (M1 ++ (a, m) :: M2) := by
  have e : (M1 ++ (a, m) :: M2).map Prod.fst = (M1 ++ (a, m0) :: M2).map Prod.fst := by simp
  have nd := h.nd
  rw [List.map_append, List.map_cons] at nd
  obtain ⟨_, n2, n3⟩ := List.nodup_append.mp nd
  have n4 := List.nodup_cons.mp n2
  refine ⟨by rw [e]; exact h.nd, fun x hx => ?_⟩
  rcases List.mem_append.mp hx with z | z
  · rw [put_ne (n3 x.1 (List.mem_map_of_mem z) a List.mem_cons_self)]
    exact h.is x (List.mem_append_left _ z)
  · rcases List.mem_cons.mp z with z | z
    · rw [z]; exact put_same
    · have hm : x.1 ∈ M2.map Prod.fst := List.mem_map_of_mem z
      have : x.1 ≠ a := fun e => n4.1 (by rw [← e]; exact hm)
      rw [put_ne this]
      exact h.is x (List.mem_append_right _ (List.mem_cons_of_mem _ z))
theorem mutL_of {L : List D} {k : Addr → List D → Prop} (h : S a = some (.lst L)) : mutL S (.ref a) k = k a L := by
  unfold mutL
  simp only [h]
theorem seqA_of {L : List D} (h : S a = some (.lst L)) : seqA S (.ref a) = some L := by
  simp only [seqA, seqL, seqM, h]
end
section
variable {c : Cl} {p : Addr} {k : Hand} {S : Sto} {M : List (Addr × MO)} {Q : Qd} {X : XQ}
theorem draw_H {n : Int} (h : Hs S ((p, handMO k) :: M)) (hk : HandOk k) (hn : 0 < n ∧ n ≤ 100000) (q : ∀ r, 0 ≤ r → r < n → ∀ k', HandOk k' → ∀ S', Hs S' ((p, handMO k') :: M) → Q (.int r) S') : sp__law_draw c [.ref p, .int n] S Q X :=
  draw_go ⟨k, hk, h.is _ List.mem_cons_self⟩ hn fun r h0 h1 k' ok => q r h0 h1 k' ok _ (Hs.set (M1 := []) h)
theorem alphabet_H (h : Hs S ((p, handMO k) :: M)) (hk : HandOk k) (q : ∀ r : List Int, r ≠ [] → r.length ≤ 1000 → ∀ k', HandOk k' → ∀ S', Hs S' ((p, handMO k') :: M) → Q (dL r) S') : sp__law_alphabet c [.ref p] S Q X :=
  ⟨p, rfl, ⟨k, hk, h.is _ List.mem_cons_self⟩, fun r h0 h1 k' ok => q r h0 (by omega) k' ok _ (Hs.set (M1 := []) h)⟩
theorem ends_H {al : List Int} {m : Int} (h : Hs S ((p, handMO k) :: M)) (hk : HandOk k) (ha : al ≠ [] ∧ al.length ≤ 1000) (hm : 0 ≤ m ∧ m ≤ 9) (q : ∀ xs, EndsOk xs → ∀ k', HandOk k' → ∀ S', Hs S' ((p, handMO k') :: M) → Q (dRows xs) S') : sp__law_ends c [.ref p, dL al, .int m] S Q X :=
  ⟨p, al, m, rfl, ⟨k, hk, h.is _ List.mem_cons_self⟩, ha, hm, fun xs hx k' ok => q xs hx k' ok _ (Hs.set (M1 := []) h)⟩
theorem long_H {al : List Int} (h : Hs S ((p, handMO k) :: M)) (hk : HandOk k) (ha : al ≠ [] ∧ al.length ≤ 1000) (q : ∀ xs, EndsOk xs → ∀ k', HandOk k' → ∀ S', Hs S' ((p, handMO k') :: M) → Q (dRows xs) S') : sp__law_long c [.ref p, dL al] S Q X :=
  ⟨p, al, rfl, ⟨k, hk, h.is _ List.mem_cons_self⟩, ha, fun xs hx k' ok => q xs hx k' ok _ (Hs.set (M1 := []) h)⟩
theorem near_H {xs : List (List Int)} {al : List Int} {m : Int} (h : Hs S ((p, handMO k) :: M)) (hk : HandOk k) (hx : EndsOk xs) (ha : al ≠ [] ∧ al.length ≤ 1000) (hm : 0 ≤ m ∧ m ≤ 100) (q : ∀ r : List Int, (r.length : Int) = m → ∀ k', HandOk k' → ∀ S', Hs S' ((p, handMO k') :: M) → Q (dL r) S') :
    sp__law_near c [.ref p, dRows xs, dL al, .int m] S Q X :=
  ⟨p, xs, al, m, rfl, ⟨k, hk, h.is _ List.mem_cons_self⟩, hx, ha, hm, fun r hr k' ok => q r hr k' ok _ (Hs.set (M1 := []) h)⟩
/-- a list of copies of the rows e -/
theorem copy_H {e : List (List Int)} {a0 a1 a2 a3 a4 a5 a6 a7 a9 a10 a11 a12 a13 a14 : Option D} (h : Hs S M) (hz : e.length ≤ 100)
    (q : ∀ S' cs a, Hs S' (M ++ cs ++ [(a, .lst (cs.map fun x => .ref x.1))]) → cs.map Prod.snd = e.map (fun s => MO.lst (s.map D.int)) → (∀ x, x ∈ M ++ cs → x.1 ≠ a) → (∀ x y, x ∈ M → y ∈ cs → x.1 ≠ y.1) → Q (.ref a) S') :
    wLcM (wIt (wVar 8)) (gN 14) wYes (wCB oListM (wCons (wVar 14) wNil)) [14] [a0, a1, a2, a3, a4, a5, a6, a7, some (dRows e), a9, a10, a11, a12, a13, a14] S Q X := by
  simp only [wLcM, wIt, wVar, getV, some!, dRows, seqA, seqL, seqM, delVs, delV, List.length_map]
  refine ⟨by unfold sizeLine; omega, ?_⟩
  refine compI_inv (fun i acc S' => ∃ cs, Hs S' (M ++ cs) ∧ acc = cs.map (fun x => .ref x.1) ∧ cs.map Prod.snd = (e.take i).map (fun s => MO.lst (s.map D.int)) ∧ ∀ x y, x ∈ M → y ∈ cs → x.1 ≠ y.1) ⟨[], by rw [List.append_nil]; exact h, rfl, rfl, fun x y _ hy => by cases hy⟩ (fun _ _ _ _ => trivial) ?_ ?_
  · rintro i d acc S' hi ⟨cs, hh, rfl, hc, hn⟩
    rw [List.getElem?_map] at hi
    obtain ⟨s, hs, rfl⟩ := Option.map_eq_some_iff.mp hi
    simp only [gN, setV, wYes, if_true, wCB, wCons, wNil, wVar, getV, some!, oListM, one, dL, seqA, seqL, seqM]
    refine fun a ha => ⟨cs ++ [(a, .lst (s.map D.int))], by rw [← List.append_assoc]; exact hh.new ha, by simp, ?_, fun x y hx hy => ?_⟩
    · rw [List.take_add_one, hs, List.map_append, List.map_append, hc]; rfl
    · rcases List.mem_append.mp hy with z | z
      · exact hn x y hx z
      · rw [List.mem_singleton.mp z]
        exact hh.fresh ha x (List.mem_append_left _ hx)
  · rintro acc S' ⟨cs, hh, rfl, hc, hn⟩
    rw [List.length_map, List.take_length] at hc
    exact fun a ha => q _ cs a (hh.new ha) hc (hh.fresh ha) hn
/-- rows by address -/
theorem rows_H {e : List (List Int)} {a : Addr} {cs : List (Addr × MO)} (h : Hs S M) (ha : (a, .lst (cs.map fun x => .ref x.1)) ∈ M) (hc : ∀ x, x ∈ cs → x ∈ M) (he : cs.map Prod.snd = e.map (fun s => MO.lst (s.map D.int))) : Rows S (.ref a) e := by
  refine ⟨_, seqA_of (h.is _ ha), ?_, fun i d s h1 h2 => ?_⟩
  · have := congrArg List.length he
    simp at this
    simpa using this
  · rw [List.getElem?_map] at h1
    obtain ⟨x, hx, rfl⟩ := Option.map_eq_some_iff.mp h1
    have e1 : (cs.map Prod.snd)[i]? = some x.2 := by rw [List.getElem?_map, hx]; rfl
    rw [he, List.getElem?_map, h2] at e1
    have e2 : MO.lst (s.map D.int) = x.2 := Option.some.inj e1
    exact seqA_of ((h.is x (hc x (List.mem_of_getElem? hx))).trans (by rw [e2]))
end
/-- what is changed behind the Stoppers -/
structure Wk (S : Sto) (M : List (Addr × MO)) (hs bs : List Addr) (n : Nat) : Prop where
  m : Hs S M
  h : ∀ a, a ∈ hs → (∀ x, x ∈ M → x.1 ≠ a) ∧ ∃ rs, S a = some (.lst rs) ∧ rs.length ≤ n ∧ ∀ r, r ∈ rs → ∃ b, b ∈ bs ∧ r = .ref b
  b : ∀ b, b ∈ bs → (∀ x, x ∈ M → x.1 ≠ b) ∧ b ∉ hs ∧ ∃ ns, S b = some (.lst ns) ∧ ns.length ≤ n
section
variable {S : Sto} {M : List (Addr × MO)} {hs bs : List Addr} {n : Nat} {a z : Addr} {rs ns : List D}
theorem Wk.appH (w : Wk S M hs bs n) (ha : a ∈ hs) (hz : S z = none) (e : S a = some (.lst rs)) (hr : rs.length ≤ n ∧ ∀ r, r ∈ rs → ∃ b, b ∈ bs ∧ r = .ref b) (hn : ns.length ≤ n) :
    Wk (put (put S z (.lst ns)) a (.lst (rs ++ [.ref z]))) M hs (z :: bs) (n + 1) := by
  have haz : a ≠ z := fun q => by subst q; rw [hz] at e; cases e
  refine ⟨(w.m.other (w.m.fresh hz)).other (w.h a ha).1, fun a' ha' => ⟨(w.h a' ha').1, ?_⟩, fun b hb => ?_⟩
  · obtain ⟨_, rs', e', l', g'⟩ := w.h a' ha'
    by_cases q : a' = a
    · subst q
      refine ⟨_, put_same, by simp; omega, fun r hr' => ?_⟩
      rcases List.mem_append.mp hr' with y | y
      · obtain ⟨b, b1, b2⟩ := hr.2 r y
        exact ⟨b, List.mem_cons_of_mem _ b1, b2⟩
      · exact ⟨z, List.mem_cons_self, List.mem_singleton.mp y⟩
    · have : a' ≠ z := fun q => by subst q; rw [hz] at e'; cases e'
      refine ⟨rs', by rw [put_ne q, put_ne this]; exact e', by omega, fun r hr' => ?_⟩
      obtain ⟨b, b1, b2⟩ := g' r hr'
      exact ⟨b, List.mem_cons_of_mem _ b1, b2⟩
  · rcases List.mem_cons.mp hb with q | q
    · subst q
      refine ⟨w.m.fresh hz, fun hb' => ?_, ns, by rw [put_ne (Ne.symm haz), put_same], by omega⟩
      obtain ⟨_, rs', e', _⟩ := w.h b hb'
      rw [hz] at e'; cases e'
    · obtain ⟨b1, b2, ns', b3, b4⟩ := w.b b q
      have n1 : b ≠ a := fun y => b2 (y ▸ ha)
      have n2 : b ≠ z := fun y => by subst y; rw [hz] at b3; cases b3
      exact ⟨b1, b2, ns', by rw [put_ne n1, put_ne n2]; exact b3, by omega⟩
theorem Wk.appB {b : Addr} (w : Wk S M hs bs n) (hb : b ∈ bs) (hn : ns.length ≤ n + 1) : Wk (put S b (.lst ns)) M hs bs (n + 1) := by
  obtain ⟨b1, b2, _⟩ := w.b b hb
  refine ⟨w.m.other b1, fun a ha => ?_, fun b' hb' => ?_⟩
  · obtain ⟨h1, rs', e', l', g'⟩ := w.h a ha
    have : a ≠ b := fun y => b2 (y ▸ ha)
    exact ⟨h1, rs', by rw [put_ne this]; exact e', by omega, g'⟩
  · obtain ⟨h1, h2, ns', h3, h4⟩ := w.b b' hb'
    refine ⟨h1, h2, ?_⟩
    by_cases q : b' = b
    · subst q; exact ⟨ns, put_same, hn⟩
    · exact ⟨ns', by rw [put_ne q]; exact h3, by omega⟩
end
end K90
set_option Elab.async false
set_option linter.all false
set_option maxRecDepth 100000
set_option maxHeartbeats 1000000
namespace K90
open PySem PySem.Spec PyProof.Rows L2 DL
local macro_rules | `(tactic| walk_at "r") => `(tactic| try simp only [wSeq, wNext, wSet, wC, wFor, wIt, wRg1, wRg2, wVar, wIf, wAnd, wOr, wNot, wTest, wChain, wBin, wCB, wCons, wNil, wSl, wP, wNoP, wRet, wRetN, wDrop, wCall, wTup, wLst, wLstM, wUn, wIfE, wAndV, wOrV, wNotV, wIsi, wYes, wSetI, wSetF, wFld, wAugF, wMt, wMeth, wLc, wLcM, wBreak, xcQ, fldD, setD, setIx, mutL, isIns, stMO, put_same, put_put, oAppend, oExtend,
  getV, setV, some!, one, two, asI, oLen, oLt, oLe, oGt, oGe, oI0, oI, oSub, oMul, oMod, oDiv, oPow, oAdd, oCatL, oEq, oNe, oIsN, oNotN, oIx, oSl, oTuple, oList, oMax2, oMin2, oInt, gN, seqA, seqL, seqM, dT, dL, List.length_map, decide_eq_true_eq, shD_int, shD_bl, shD_lst, shD_tup, eqD_int, eqD_bl, eqD_lst, eqD_tup, cutD_int, true_and, and_true, if_true, if_false, Bool.false_eq_true, Bool.true_eq_false, eq_self_iff_true,
  at_0, at_1, at_2, at_3, ix4_1, ix4_2, ix4_3, ix2_0, ix2_1, List.set_cons_zero, List.set_cons_succ, Bool.not_true, Bool.not_false, tyN, kb1, kb2, kb3, kb4, kb5, kb6, kb7, kb8, kb9, kb10, kb11, isNon, delVs, delV, oNeg, wFrz, frzD, ← List.map_append])
local macro_rules | `(tactic| walk_at "c") => `(tactic| try simp only [wSeq, wNext, wSet, wC, wVar, wIf, wAnd, wOr, wNot, wTest, wBin, wCB, wCons, wNil, wRet, wDrop, wCall, wMeth, wIfE, xcQ, getV, setV, some!, true_and, and_true, if_true, if_false, Bool.false_eq_true, Bool.true_eq_false, eq_self_iff_true, Bool.not_true, Bool.not_false])
def bi (w : Bool) : Int := if w = true then 1 else 0
theorem bi_of {r : Int} (h0 : 0 ≤ r) (h1 : r < 2) : ∃ w, r = bi w := by
  by_cases h : r = 0
  · exact ⟨false, h⟩
  · exact ⟨true, by show r = 1; omega⟩
theorem bi_not {w : Bool} : 1 - bi w = bi (!w) := by cases w <;> rfl
theorem at_bi {α : Type} (f : Bool → α) (w : Bool) : atI [f false, f true] (bi w) = some (f w) := by cases w <;> rfl
theorem at_get {cells : List Int} {i : Nat} (h : i < cells.length) : atI (cells.map D.int) (i : Int) = some (.int cells[i]) := by
  unfold atI ixN
  rw [List.length_map, if_pos (by omega), if_pos (by omega)]
  show (cells.map D.int)[(i : Int).toNat]? = _
  rw [Int.toNat_natCast, List.getElem?_map, List.getElem?_eq_getElem h]; rfl
theorem Goes.congr {c : Cl} {S S' : Sto} {a t u : Addr} {xs : List (List Int)} {text : List Int} (g : Goes c S a t u xs text) (h1 : S' a = S a) (h2 : S' t = S t) (h3 : S' u = S u) : Goes c S' a t u xs text := by
  obtain ⟨g1, g2, s, sent, stop, g3, g4, g5⟩ := g
  exact ⟨g1, h2.trans g2, s, sent, stop, h1.trans g3, h3.trans g4, g5⟩
structure Nm where
  p : Addr
  pl : Addr
  plt : Addr
  s : Bool → Addr
  t : Bool → Addr
  u : Bool → Addr
  e : Bool → List (List Int)
  l : Bool → List Int
structure LI (c : Cl) (S : Sto) (N : Nm) (x : Bool → List Int) : Prop where
  hand : IsHand S N.p
  li : S N.pl = some (.lst [dRows (N.e false), dRows (N.e true)])
  le : S N.plt = some (.lst [dL (N.l false), dL (N.l true)])
  g : ∀ w, Goes c S (N.s w) (N.t w) (N.u w) (N.e w) (x w)
structure NmOk (N : Nm) : Prop where
  n1 : ∀ w, N.p ≠ N.s w ∧ N.p ≠ N.t w ∧ N.p ≠ N.u w
  n2 : ∀ w, N.pl ≠ N.s w ∧ N.pl ≠ N.t w ∧ N.pl ≠ N.u w
  n3 : ∀ w, N.plt ≠ N.s w ∧ N.plt ≠ N.t w ∧ N.plt ≠ N.u w
  n4 : ∀ w, N.s (!w) ≠ N.s w ∧ N.s (!w) ≠ N.t w ∧ N.s (!w) ≠ N.u w
  n5 : ∀ w, N.t (!w) ≠ N.s w ∧ N.t (!w) ≠ N.t w ∧ N.t (!w) ≠ N.u w
  n6 : ∀ w, N.u (!w) ≠ N.s w ∧ N.u (!w) ≠ N.t w ∧ N.u (!w) ≠ N.u w
  n7 : N.pl ≠ N.p ∧ N.plt ≠ N.p
  eo : ∀ w, EndsOk (N.e w)
  ll : (N.l false).length ≤ 23 ∧ (N.l true).length ≤ 45
section
variable {c : Cl} {S : Sto} {N : Nm} {x : Bool → List Int}
theorem LI.draw (o : NmOk N) (h : LI c S N x) {k : Hand} (hk : HandOk k) : LI c (put S N.p (handMO k)) N x :=
  ⟨isHand_put hk, by rw [put_ne o.n7.1]; exact h.li, by rw [put_ne o.n7.2]; exact h.le, fun w => (h.g w).congr (put_ne (Ne.symm (o.n1 w).1)) (put_ne (Ne.symm (o.n1 w).2.1)) (put_ne (Ne.symm (o.n1 w).2.2))⟩
theorem LI.read (o : NmOk N) (h : LI c S N x) {S' : Sto} {w : Bool} {y : Bool → List Int} (hy : y (!w) = x (!w)) (hg : Goes c S' (N.s w) (N.t w) (N.u w) (N.e w) (y w)) (hf : ∀ b, b ≠ N.s w → b ≠ N.t w → b ≠ N.u w → S' b = S b) : LI c S' N y := by
  refine ⟨?_, ?_, ?_, fun v => ?_⟩
  · obtain ⟨k, ok, e⟩ := h.hand
    exact ⟨k, ok, by rw [hf _ (o.n1 w).1 (o.n1 w).2.1 (o.n1 w).2.2]; exact e⟩
  · rw [hf _ (o.n2 w).1 (o.n2 w).2.1 (o.n2 w).2.2]; exact h.li
  · rw [hf _ (o.n3 w).1 (o.n3 w).2.1 (o.n3 w).2.2]; exact h.le
  · by_cases q : v = w
    · subst q; exact hg
    · have e : v = !w := by cases v <;> cases w <;> simp at q ⊢
      subst e
      rw [hy]
      exact (h.g (!w)).congr (hf _ (o.n4 w).1 (o.n4 w).2.1 (o.n4 w).2.2) (hf _ (o.n5 w).1 (o.n5 w).2.1 (o.n5 w).2.2) (hf _ (o.n6 w).1 (o.n6 w).2.1 (o.n6 w).2.2)
theorem draw_L {n : Int} {Q : Qd} {X : XQ} (o : NmOk N) (h : LI c S N x) (hn : 0 < n ∧ n ≤ 100000) (q : ∀ r, 0 ≤ r → r < n → ∀ S', LI c S' N x → Q (.int r) S') : sp__law_draw c [.ref N.p, .int n] S Q X :=
  draw_go h.hand hn fun r h0 h1 k ok => q r h0 h1 _ (h.draw o ok)
theorem look_L {w : Bool} {Q : Qd} {X : XQ} (o : NmOk N) (h : LI c S N x) (hx : (x w).length ≤ 500) (q : Q (.bl true) S) : sp__law_looked c [.ref (N.s w), dRows (N.e w), .ref (N.t w), .ref (N.u w)] S Q X :=
  ⟨_, _, _, _, _, rfl, h.g w, ⟨o.eo w, hx⟩, q⟩
end
theorem law_tailC {c : Cl} {S : Sto} {N : Nm} {a0 a3 a4 a6 x8 x11 x12 x13 x14 : Option D} {Q : Qd} {X1 : XQ} (o : NmOk N) (h : LI c S N N.l) (hq : ∀ S', Q (.bl true) S') :
    (wSeq (wFor (wRg1 (wC (.int 2))) (gN 12) (wIf (wOr (wTest (wBin oNe (wBin oIx (wVar 9) (wVar 12)) (wBin oIx (wVar 5) (wVar 12)))) (wNot (wTest (wCall (sp__law_looked c) (wCons (wBin oIx (wVar 7) (wVar 12)) (wCons (wBin oIx (wVar 2) (wVar 12)) (wCons (wBin oIx (wVar 9) (wVar 12)) (wCons (wBin oIx (wVar 10) (wVar 12)) wNil)))))))) (wRet (wC (.bl false))) wNext))
  (wRet (wCall (sp__law_closing c) wNil))) [a0, some (.ref N.p), some (.ref N.pl), a3, a4, some (.ref N.plt), a6, some (.lst [.ref (N.s false), .ref (N.s true)]), x8, some (.lst [.ref (N.t false), .ref (N.t true)]), some (.lst [.ref (N.u false), .ref (N.u true)]), x11, x12, x13, x14] S (endQ Q X1) := by
  refine seq_k fun q1 n1 r1 _ _ _ => ?_
  simp only [wFor, wRg1, wC, asI]
  refine ⟨by decide, ?_⟩
  refine forI_invq (fun i e S' => S' = S ∧ ∃ x12, e = [a0, some (.ref N.p), some (.ref N.pl), a3, a4, some (.ref N.plt), a6, some (.lst [.ref (N.s false), .ref (N.s true)]), x8, some (.lst [.ref (N.t false), .ref (N.t true)]), some (.lst [.ref (N.u false), .ref (N.u true)]), x11, x12, x13, x14]) ⟨rfl, _, rfl⟩ (fun _ _ _ _ => trivial) ?_ ?_
  · rintro i d e S' hi ⟨rfl, x12, rfl⟩ q hq hrt hbk hct hxc
    obtain ⟨hlt, rfl⟩ := rngD_get hi
    obtain ⟨w, hw⟩ := bi_of (r := 0 + (i : Int)) (by omega) (by omega)
    rw [hw]
    have e1 := at_bi (fun w => D.ref (N.t w)) w
    have e2 := at_bi (fun w => dL (N.l w)) w
    have e3 := at_bi (fun w => D.ref (N.s w)) w
    have e4 := at_bi (fun w => D.ref (N.u w)) w
    have e5 := at_bi (fun w => dRows (N.e w)) w
    try dsimp only at e1 e2 e3 e4 e5
    have s1 : shD S' (.ref (N.t w)) = true := by
      unfold shD resD
      simp only [(h.g w).tx]
      exact shaped_of okP_dL (by decide)
    have s2 : eqD S' (.ref (N.t w)) (dL (N.l w)) = true := by
      unfold eqD resD
      simp only [(h.g w).tx]
      exact (eqv_dL _ _).trans (by simp)
    have hx : (N.l w).length ≤ 500 := by
      have := o.ll
      cases w <;> omega
    simp only [gN, setV, wIf, wOr, wNot, wTest, wBin, wVar, wCall, wCons, wNil, getV, some!, oIx, seqA, seqL, seqM, h.li, h.le, e1, e2, e3, e4, e5, oNe, s1, s2, shD_dL, true_and, Bool.not_true, Bool.false_eq_true, if_false]
    refine look_L o h hx ?_
    simp only [Bool.not_true, Bool.false_eq_true, if_false, wNext]
    exact hq _ _ ⟨rfl, _, rfl⟩
  · rintro e S' ⟨rfl, x12, rfl⟩
    refine n1 _ _ ?_
    simp only [wRet, wCall, wNil]
    exact ⟨rfl, hq⟩
theorem law_tailB {c : Cl} {S : Sto} {N : Nm} {a0 a3 a4 a6 x8 x11 x12 x13 x14 : Option D} {Q : Qd} {X1 : XQ} (o : NmOk N) (h : LI c S N fun _ => []) (hq : ∀ S', Q (.bl true) S') :
    (wSeq (wIf (wNot (wTest (wCall (sp__law_looked c) (wCons (wBin oIx (wVar 7) (wC (.int 0))) (wCons (wBin oIx (wVar 2) (wC (.int 0))) (wCons (wBin oIx (wVar 9) (wC (.int 0))) (wCons (wBin oIx (wVar 10) (wC (.int 0))) wNil))))))) (wRet (wC (.bl false))) wNext)
  (wSeq (wFor (wRg1 (wC (.int 90))) (gN 11) (wSeq (wSet 12 (wCall (sp__law_draw c) (wCons (wVar 1) (wCons (wC (.int 2)) wNil))))
  (wSeq (wIf (wTest (wBin oEq (wCB oLen (wCons (wBin oIx (wVar 9) (wVar 12)) wNil)) (wCB oLen (wCons (wBin oIx (wVar 5) (wVar 12)) wNil)))) (wSet 12 (wBin oSub (wC (.int 1)) (wVar 12))) wNext)
  (wSeq (wIf (wTest (wBin oEq (wCB oLen (wCons (wBin oIx (wVar 9) (wVar 12)) wNil)) (wCB oLen (wCons (wBin oIx (wVar 5) (wVar 12)) wNil)))) wBreak wNext)
  (wSeq (wSet 13 (wBin oIx (wBin oIx (wVar 5) (wVar 12)) (wCB oLen (wCons (wBin oIx (wVar 9) (wVar 12)) wNil))))
  (wSeq (wIf (wNot (wTest (wCall (sp__law_read_on c) (wCons (wBin oIx (wVar 7) (wVar 12)) (wCons (wBin oIx (wVar 2) (wVar 12)) (wCons (wBin oIx (wVar 9) (wVar 12)) (wCons (wBin oIx (wVar 10) (wVar 12)) (wCons (wVar 13) wNil)))))))) (wRet (wC (.bl false))) wNext)
  (wSeq (wSet 12 (wCall (sp__law_draw c) (wCons (wVar 1) (wCons (wC (.int 2)) wNil))))
  (wIf (wAnd (wTest (wBin oEq (wCall (sp__law_draw c) (wCons (wVar 1) (wCons (wC (.int 4)) wNil))) (wC (.int 0)))) (wNot (wTest (wCall (sp__law_looked c) (wCons (wBin oIx (wVar 7) (wVar 12)) (wCons (wBin oIx (wVar 2) (wVar 12)) (wCons (wBin oIx (wVar 9) (wVar 12)) (wCons (wBin oIx (wVar 10) (wVar 12)) wNil)))))))) (wRet (wC (.bl false))) wNext))))))))
  (wSeq (wFor (wRg1 (wC (.int 2))) (gN 12) (wIf (wOr (wTest (wBin oNe (wBin oIx (wVar 9) (wVar 12)) (wBin oIx (wVar 5) (wVar 12)))) (wNot (wTest (wCall (sp__law_looked c) (wCons (wBin oIx (wVar 7) (wVar 12)) (wCons (wBin oIx (wVar 2) (wVar 12)) (wCons (wBin oIx (wVar 9) (wVar 12)) (wCons (wBin oIx (wVar 10) (wVar 12)) wNil)))))))) (wRet (wC (.bl false))) wNext))
  (wRet (wCall (sp__law_closing c) wNil))))) [a0, some (.ref N.p), some (.ref N.pl), a3, a4, some (.ref N.plt), a6, some (.lst [.ref (N.s false), .ref (N.s true)]), x8, some (.lst [.ref (N.t false), .ref (N.t true)]), some (.lst [.ref (N.u false), .ref (N.u true)]), x11, x12, x13, x14] S (endQ Q X1) := by
  have o2 := o.ll
  have e0 : ∀ w, (N.l w).length ≤ 45 := fun w => by cases w <;> omega
  have f1 := fun w => at_bi (fun w => D.ref (N.t w)) w
  have f2 := fun w => at_bi (fun w => dL (N.l w)) w
  have f6 := fun w => at_bi (fun w => D.lst ((N.l w).map D.int)) w
  have f3 := fun w => at_bi (fun w => D.ref (N.s w)) w
  have f4 := fun w => at_bi (fun w => D.ref (N.u w)) w
  have f5 := fun w => at_bi (fun w => dRows (N.e w)) w
  try dsimp only at f1 f2 f3 f4 f5
  refine seq_k fun q1 n1 r1 _ _ _ => ?_
  have g1 := f1 false
  have g3 := f3 false
  have g4 := f4 false
  have g5 := f5 false
  have b0 : bi false = 0 := rfl
  rw [b0] at g1 g3 g4 g5
  simp only [wIf, wNot, wTest, wBin, wVar, wC, wCall, wCons, wNil, getV, some!, oIx, seqA, seqL, seqM, h.li, g1, g3, g4, g5]
  refine look_L o h (Nat.zero_le _) ?_
  simp only [Bool.not_true, Bool.false_eq_true, if_false, wNext]
  refine n1 _ _ ?_
  refine seq_k fun q1 n1 r1 _ _ _ => ?_
  simp only [wFor, wRg1, wC, asI]
  refine ⟨by decide, ?_⟩
  -- both texts read
  have fin : ∀ S' x11 x12 x13, LI c S' N N.l → q1.nx [a0, some (.ref N.p), some (.ref N.pl), a3, a4, some (.ref N.plt), a6, some (.lst [.ref (N.s false), .ref (N.s true)]), x8, some (.lst [.ref (N.t false), .ref (N.t true)]), some (.lst [.ref (N.u false), .ref (N.u true)]), x11, x12, x13, x14] S' :=
    fun S' x11 x12 x13 h' => n1 _ _ (law_tailC o h' hq)
  refine forI_invq (fun i e S' => ∃ x : Bool → List Int, LI c S' N x ∧ (∀ w, x w = (N.l w).take (x w).length ∧ (x w).length ≤ (N.l w).length) ∧ (x false).length + (x true).length = i ∧ ∃ x11 x12 x13, e = [a0, some (.ref N.p), some (.ref N.pl), a3, a4, some (.ref N.plt), a6, some (.lst [.ref (N.s false), .ref (N.s true)]), x8, some (.lst [.ref (N.t false), .ref (N.t true)]), some (.lst [.ref (N.u false), .ref (N.u true)]), x11, x12, x13, x14])
    ⟨fun _ => [], h, fun w => ⟨rfl, Nat.zero_le _⟩, rfl, _, _, _, rfl⟩ (fun _ _ _ _ => trivial) ?_ ?_
  · rintro i d e S' hi ⟨x, hL, hx, hn, x11, x12, x13, rfl⟩ q hqn hrt hbk hct hxc
    refine seq_k fun q2 n2 _ b2 _ _ => ?_
    simp only [gN, setV, wSet, wCall, wCons, wNil, wVar, wC, getV, some!]
    refine draw_L o hL (by decide) fun r r0 r1 S1 hL1 => n2 _ _ ?_
    obtain ⟨w, rfl⟩ := bi_of r0 r1
    refine seq_k fun q3 n3 _ b3 _ _ => ?_
    -- who is asked
    have ask : ∀ w, q3.nx [a0, some (.ref N.p), some (.ref N.pl), a3, a4, some (.ref N.plt), a6, some (.lst [.ref (N.s false), .ref (N.s true)]), x8, some (.lst [.ref (N.t false), .ref (N.t true)]), some (.lst [.ref (N.u false), .ref (N.u true)]), some d, some (.int (bi w)), x13, x14] S1 ∨ ((x w).length = (N.l w).length ∧ (x (!w)).length ≠ (N.l (!w)).length) := fun w => by
      by_cases full : (x w).length = (N.l w).length
      · by_cases full2 : (x (!w)).length = (N.l (!w)).length
        · refine .inl (n3 _ _ ?_)
          refine seq_k fun q4 n4 _ b4 _ _ => ?_
          have hw := hL1.g w
          simp only [wIf, wTest, wBin, wVar, wCB, wCons, wNil, getV, some!, oIx, seqA, seqL, seqM, oLen, one, hL1.le, f1, f2, f6, hw.tx, oEq, shD_int, eqD_int, true_and, List.length_map, dL, full, decide_true, if_true, wBreak]
          rw [b4, hbk]
          have hall : x = N.l := funext fun v => by
            have : v = w ∨ v = !w := by cases v <;> cases w <;> simp
            rcases this with rfl | rfl
            · rw [(hx v).1, full, List.take_length]
            · rw [(hx (!w)).1, full2, List.take_length]
          rw [hall] at hL1
          exact fin _ _ _ _ hL1
        · exact .inr ⟨full, full2⟩
      · refine .inl (n3 _ _ ?_)
        refine seq_k fun q4 n4 _ b4 _ _ => ?_
        have hw := hL1.g w
        have hne : ¬ (((x w).length : Int) = ((N.l w).length : Int)) := fun z => full (by omega)
        simp only [wIf, wTest, wBin, wVar, wCB, wCons, wNil, getV, some!, oIx, seqA, seqL, seqM, oLen, one, hL1.le, f1, f2, f6, hw.tx, oEq, shD_int, eqD_int, true_and, List.length_map, dL, decide_eq_true_eq, if_neg hne, wNext]
        refine n4 _ _ ?_
        have hlt : (x w).length < (N.l w).length := by have := (hx w).2; omega
        refine seq_k fun q5 n5 _ b5 _ _ => ?_
        have eg := at_get hlt
        simp only [wSet, wBin, wVar, wCB, wCons, wNil, getV, some!, oIx, seqA, seqL, seqM, oLen, one, hL1.le, f1, f2, f6, hw.tx, List.length_map, dL, eg, setV]
        refine n5 _ _ ?_
        refine seq_k fun q6 n6 _ b6 _ _ => ?_
        simp only [wIf, wNot, wTest, wCall, wBin, wVar, wCons, wNil, getV, some!, oIx, seqA, seqL, seqM, hL1.li, f1, f3, f4, f5]
        refine ⟨_, _, _, _, _, _, rfl, hw, ⟨o.eo w, by have := e0 w; omega⟩, fun S2 hg2 hf2 => ?_⟩
        simp only [Bool.not_true, Bool.false_eq_true, if_false, wNext]
        refine n6 _ _ ?_
        have hy : (fun v => if v = w then x w ++ [(N.l w)[(x w).length]] else x v) (!w) = x (!w) := if_neg (by cases w <;> decide)
        have hL2 : LI c S2 N fun v => if v = w then x w ++ [(N.l w)[(x w).length]] else x v := hL1.read o (w := w) hy (by rw [if_pos rfl]; exact hg2) hf2
        have hx2 : ∀ v, (fun v => if v = w then x w ++ [(N.l w)[(x w).length]] else x v) v = (N.l v).take ((fun v => if v = w then x w ++ [(N.l w)[(x w).length]] else x v) v).length ∧ ((fun v => if v = w then x w ++ [(N.l w)[(x w).length]] else x v) v).length ≤ (N.l v).length := fun v => by
          by_cases z : v = w
          · subst z
            simp only [if_true, List.length_append, List.length_singleton]
            refine ⟨?_, by omega⟩
            rw [List.take_add_one, List.getElem?_eq_getElem hlt, ← (hx v).1]; rfl
          · simp only [if_neg z]
            exact hx v
        have hn2 : ((fun v => if v = w then x w ++ [(N.l w)[(x w).length]] else x v) false).length + ((fun v => if v = w then x w ++ [(N.l w)[(x w).length]] else x v) true).length = i + 1 := by
          cases w <;> simp <;> omega
        generalize (fun v => if v = w then x w ++ [(N.l w)[(x w).length]] else x v) = y at hL2 hx2 hn2
        refine seq_k fun q7 n7 _ b7 _ _ => ?_
        simp only [wSet, wCall, wCons, wNil, wVar, wC, getV, some!, setV]
        refine draw_L o hL2 (by decide) fun r r0 r1 S3 hL3 => n7 _ _ ?_
        obtain ⟨v, rfl⟩ := bi_of r0 r1
        simp only [wIf, wAnd, wNot, wTest, wCall, wBin, wVar, wCons, wNil, wC, getV, some!]
        refine draw_L o hL3 (by decide) fun r r0 r1 S4 hL4 => ?_
        simp only [oEq, shD_int, eqD_int, true_and, decide_eq_true_eq]
        split
        · simp only [oIx, seqA, seqL, seqM, hL4.li, f1, f3, f4, f5, some!]
          refine look_L o hL4 (by have := e0 v; have := (hx2 v).2; omega) ?_
          simp only [Bool.not_true, Bool.false_eq_true, if_false, wNext]
          exact hqn _ _ ⟨y, hL4, hx2, hn2, _, _, _, rfl⟩
        · simp only [wNext, Bool.false_eq_true, if_false]
          exact hqn _ _ ⟨y, hL4, hx2, hn2, _, _, _, rfl⟩
    have hw := hL1.g w
    simp only [wIf, wTest, wBin, wVar, wCB, wCons, wNil, getV, some!, oIx, seqA, seqL, seqM, oLen, one, hL1.le, f1, f2, f6, hw.tx, oEq, shD_int, eqD_int, true_and, List.length_map, dL, decide_eq_true_eq]
    split
    · rename_i full
      have full' : (x w).length = (N.l w).length := by omega
      simp only [wSet, wBin, wC, wVar, getV, some!, oSub, oI0, setV, bi_not]
      rcases ask (!w) with z | z
      · exact z
      · rw [Bool.not_not] at z
        exact absurd full' z.2
    · rename_i full
      rcases ask w with z | z
      · exact z
      · exact absurd (by rw [z.1]) full
  · rintro e S' ⟨x, hL, hx, hn, x11, x12, x13, rfl⟩
    rw [rngD_length] at hn
    have h1 := (hx false).2
    have h2 := (hx true).2
    exfalso
    have : (90 : Int).toNat = 90 := rfl
    omega
end K90
set_option Elab.async false
set_option linter.all false
set_option maxRecDepth 100000
set_option maxHeartbeats 1000000
namespace K90
open PySem PySem.Spec PyProof.Rows L2 DL
local macro_rules | `(tactic| walk_at "r") => `(tactic| try simp only [wSeq, wNext, wSet, wC, wFor, wIt, wRg1, wRg2, wVar, wIf, wAnd, wOr, wNot, wTest, wChain, wBin, wCB, wCons, wNil, wSl, wP, wNoP, wRet, wRetN, wDrop, wCall, wTup, wLst, wLstM, wUn, wIfE, wAndV, wOrV, wNotV, wIsi, wYes, wSetI, wSetF, wFld, wAugF, wMt, wMeth, wLc, wLcM, wBreak, xcQ, fldD, setD, setIx, mutL, isIns, stMO, put_same, put_put, oAppend, oExtend,
  getV, setV, some!, one, two, asI, oLen, oLt, oLe, oGt, oGe, oI0, oI, oSub, oMul, oMod, oDiv, oPow, oAdd, oCatL, oEq, oNe, oIsN, oNotN, oIx, oSl, oTuple, oList, oMax2, oMin2, oInt, gN, seqA, seqL, seqM, dT, dL, List.length_map, decide_eq_true_eq, shD_int, shD_bl, shD_lst, shD_tup, eqD_int, eqD_bl, eqD_lst, eqD_tup, cutD_int, true_and, and_true, if_true, if_false, Bool.false_eq_true, Bool.true_eq_false, eq_self_iff_true,
  at_0, at_1, at_2, at_3, ix4_1, ix4_2, ix4_3, ix2_0, ix2_1, List.set_cons_zero, List.set_cons_succ, Bool.not_true, Bool.not_false, tyN, kb1, kb2, kb3, kb4, kb5, kb6, kb7, kb8, kb9, kb10, kb11, isNon, delVs, delV, oNeg, wFrz, frzD, ← List.map_append])
local macro_rules | `(tactic| walk_at "c") => `(tactic| try simp only [wSeq, wNext, wSet, wC, wVar, wIf, wAnd, wOr, wNot, wTest, wBin, wCB, wCons, wNil, wRet, wDrop, wCall, wMeth, wIfE, xcQ, getV, setV, some!, true_and, and_true, if_true, if_false, Bool.false_eq_true, Bool.true_eq_false, eq_self_iff_true, Bool.not_true, Bool.not_false])
theorem len_law (c : Cl) : ∀ ds S Q E, sp_law c ds S Q E → ds.length = 1 := by
  rintro ds S Q E ⟨_, rfl, _⟩; rfl
theorem junk_loop {c : Cl} {S : Sto} {M : List (Addr × MO)} {h0 h1 : Addr} {bs : List Addr} {a0 a1 a2 a3 a4 a5 a7 a8 a9 a10 a11 a12 a13 a14 : Option D} {q : QS} (w : Wk S M [h0, h1] bs 20)
    (hq : ∀ S' a8, Hs S' M → q.nx [a0, a1, a2, a3, a4, a5, some (.lst [.ref h0, .ref h1]), a7, a8, a9, a10, a11, a12, a13, a14] S') :
    (wFor (wIt (wVar 6)) (gN 8) (wSeq (wDrop (wMt oAppend (wVar 8) (wCons (wLstM (wCons (wC (.int 0)) wNil)) wNil)))
  (wDrop (wMt oAppend (wBin oIx (wVar 8) (wC (.int 0))) (wCons (wC (.int 0)) wNil))))) [a0, a1, a2, a3, a4, a5, some (.lst [.ref h0, .ref h1]), a7, a8, a9, a10, a11, a12, a13, a14] S q := by
  simp only [wFor, wIt, wVar, getV, some!, seqA, seqL, seqM]
  refine forI_invq (fun i e S' => ∃ bs a8, Wk S' M [h0, h1] bs (20 + 2 * i) ∧ e = [a0, a1, a2, a3, a4, a5, some (.lst [.ref h0, .ref h1]), a7, a8, a9, a10, a11, a12, a13, a14]) ⟨bs, a8, w, rfl⟩ (fun _ _ _ _ => trivial) ?_ ?_
  · rintro i d e S' hi ⟨bs, a8, w, rfl⟩ q hqn _ _ _ _
    have hi2 : i < 2 := lt_of_some hi
    have hd : ∃ a, a ∈ [h0, h1] ∧ d = .ref a := by
      match i with
      | 0 => exact ⟨h0, List.mem_cons_self, (Option.some.inj hi).symm⟩
      | 1 => exact ⟨h1, List.mem_cons_of_mem _ List.mem_cons_self, (Option.some.inj hi).symm⟩
      | n + 2 => omega
    obtain ⟨a, ha, rfl⟩ := hd
    obtain ⟨_, rs, e1, e2, e3⟩ := w.h a ha
    refine seq_k fun q1 n1 _ _ _ _ => ?_
    simp only [gN, setV, wDrop, wMt, wVar, wLstM, wCons, wNil, wC, getV, some!, oAppend]
    rw [mutL_of e1]
    refine ⟨by show 1 ≤ sizeLine; decide, fun z hz => ?_⟩
    have haz : a ≠ z := fun q => by subst q; rw [hz] at e1; cases e1
    rw [mutL_of (L := rs) (by rw [put_ne haz]; exact e1)]
    refine ⟨by unfold sizeLine; omega, n1 _ _ ?_⟩
    have w2 := w.appH (ns := [.int 0]) ha hz e1 ⟨e2, e3⟩ (by show 1 ≤ _; omega)
    have e4 : put (put S' z (.lst [.int 0])) a (.lst (rs ++ [.ref z])) a = some (.lst (rs ++ [.ref z])) := put_same
    have e5 : ∀ r, r ∈ rs ++ [D.ref z] → ∃ b, b ∈ z :: bs ∧ r = .ref b := fun r hr => by
      rcases List.mem_append.mp hr with y | y
      · obtain ⟨b, b1, b2⟩ := e3 r y
        exact ⟨b, List.mem_cons_of_mem _ b1, b2⟩
      · exact ⟨z, List.mem_cons_self, List.mem_singleton.mp y⟩
    generalize put (put S' z (.lst [.int 0])) a (.lst (rs ++ [.ref z])) = S2 at *
    obtain ⟨r, rr, er⟩ : ∃ r rr, rs ++ [D.ref z] = r :: rr := by
      cases rs with
      | nil => exact ⟨_, _, rfl⟩
      | cons x y => exact ⟨_, _, rfl⟩
    obtain ⟨b, hb, rfl⟩ := e5 r (by rw [er]; exact List.mem_cons_self)
    obtain ⟨_, _, ns, b1, b2⟩ := w2.b b hb
    simp only [wDrop, wMt, wVar, wBin, wC, wCons, wNil, getV, some!, oIx, seqA_of e4, er, at_0, oAppend, one]
    rw [mutL_of b1, mutL_of b1]
    have w3 := w2.appB (ns := ns ++ [.int 0]) hb (by simp; omega)
    have e6 : 20 + 2 * i + 1 + 1 = 20 + 2 * (i + 1) := by omega
    rw [e6] at w3
    exact ⟨by unfold sizeLine; omega, hqn _ _ ⟨_, _, w3, rfl⟩⟩
  · rintro e S' ⟨bs, a8, w, rfl⟩
    exact hq S' a8 w.m
theorem rd_law (c : Cl) : ∀ ds S Q X1, sp_law c ds S Q X1 → w_law c (startD N_law_ ds) S (endQ Q X1) := by
  rintro ds S Q X1 ⟨cells, rfl, hc, hq⟩
  show w_law c [some (.fro (cells.map D.int)), none, none, none, none, none, none, none, none, none, none, none, none, none, none] S (endQ Q X1)
  unfold w_law
  refine seq_k fun q1 n1 _ _ _ _ => ?_
  simp only [wSet, wCall, wCons, wNil, wVar, getV, some!, setV]
  refine ⟨cells, rfl, hc, fun p hp => n1 _ _ ?_⟩
  have ok0 : HandOk ⟨cells, 0, 0, 1311768467⟩ := ⟨hc, Int.le_refl 0, Int.le_refl 0, by show (0 : Int) ≤ 1311768467; decide, by show (1311768467 : Int) < 2305843009213693951; decide⟩
  have H := (Hs.nil (S := S)).new (m := handMO ⟨cells, 0, 0, 1311768467⟩) hp
  generalize put S p (handMO ⟨cells, 0, 0, 1311768467⟩) = S at H ⊢
  generalize (⟨cells, 0, 0, 1311768467⟩ : Hand) = k at ok0 H
  refine seq_k fun q1 n1 _ _ _ _ => ?_
  simp only [wSet, wLstM, wNil, setV]
  refine ⟨Nat.zero_le _, fun pl hpl => n1 _ _ ?_⟩
  replace H := H.new (m := .lst []) hpl
  generalize put S pl (.lst []) = S at H ⊢
  refine seq_k fun q1 n1 _ _ _ _ => ?_
  simp only [wSet, wCall, wCons, wNil, wVar, getV, some!, setV]
  refine alphabet_H H ok0 fun al ha1 ha2 k ok S H => n1 _ _ ?_
  refine seq_k fun q1 n1 _ _ _ _ => ?_
  simp only [wDrop, wMt, wCall, wCons, wNil, wVar, wC, getV, some!, oAppend, one]
  rw [mutL_of (H.is (pl, _) (List.mem_cons_of_mem _ List.mem_cons_self))]
  refine ends_H H ok ⟨ha1, ha2⟩ (by decide) fun e0 he0 k ok S H => ?_
  rw [mutL_of (H.is (pl, _) (List.mem_cons_of_mem _ List.mem_cons_self))]
  refine ⟨by decide, n1 _ _ ?_⟩
  replace H := Hs.set (m := .lst ([] ++ [dRows e0])) (M1 := [(p, handMO k)]) (M2 := []) H
  generalize put S pl (.lst ([] ++ [dRows e0])) = S at H ⊢
  refine seq_k fun q1 n1 _ _ _ _ => ?_
  simp only [wSet, wCall, wCons, wNil, wVar, getV, some!, setV]
  refine alphabet_H H ok fun al2 hb1 hb2 k ok S H => n1 _ _ ?_
  refine seq_k fun q1 n1 _ _ _ _ => ?_
  simp only [wDrop, wMt, wCall, wCons, wNil, wVar, wC, getV, some!, oAppend, one]
  rw [mutL_of (H.is (pl, _) (List.mem_cons_of_mem _ List.mem_cons_self))]
  refine long_H H ok ⟨hb1, hb2⟩ fun e1 he1 k ok S H => ?_
  rw [mutL_of (H.is (pl, _) (List.mem_cons_of_mem _ List.mem_cons_self))]
  refine ⟨by show 1 < sizeLine; decide, n1 _ _ ?_⟩
  replace H := Hs.set (m := .lst [dRows e0, dRows e1]) (M1 := [(p, handMO k)]) (M2 := []) H
  change wSeq _ _ _ (put S pl (.lst [dRows e0, dRows e1])) _
  generalize put S pl (.lst [dRows e0, dRows e1]) = S at H ⊢
  refine seq_k fun q1 n1 _ _ _ _ => ?_
  simp only [wSet, wLstM, wBin, wCall, wCons, wNil, wVar, wC, getV, some!, setV, oIx, seqA_of (H.is (pl, _) (List.mem_cons_of_mem _ List.mem_cons_self)), at_0, oAdd]
  refine draw_H H ok (by decide) fun r r0 r1 k ok S H => ?_
  refine near_H H ok he0 ⟨ha1, ha2⟩ (by omega) fun l0 hl0 k ok S H => ?_
  refine ⟨by show 1 ≤ sizeLine; decide, fun plt hplt => n1 _ _ ?_⟩
  replace H := H.new (m := .lst [dL l0]) hplt
  generalize put S plt (.lst [dL l0]) = S at H ⊢
  refine seq_k fun q1 n1 _ _ _ _ => ?_
  simp only [wDrop, wMt, wBin, wCall, wCons, wNil, wVar, wC, getV, some!, oIx, seqA_of (H.is (pl, _) (List.mem_cons_of_mem _ List.mem_cons_self)), at_1, oAdd, oAppend, one]
  rw [mutL_of (H.is (plt, _) (List.mem_cons_of_mem _ (List.mem_cons_of_mem _ List.mem_cons_self)))]
  refine draw_H H ok (by decide) fun r2 r20 r21 k ok S H => ?_
  refine near_H H ok he1 ⟨hb1, hb2⟩ (by omega) fun l1 hl1 k ok S H => ?_
  rw [mutL_of (H.is (plt, _) (List.mem_cons_of_mem _ (List.mem_cons_of_mem _ List.mem_cons_self)))]
  refine ⟨by show 1 < sizeLine; decide, n1 _ _ ?_⟩
  replace H := Hs.set (m := .lst [dL l0, dL l1]) (M1 := [(p, handMO k), (pl, .lst [dRows e0, dRows e1])]) (M2 := []) H
  change wSeq _ _ _ (put S plt (.lst [dL l0, dL l1])) _
  generalize put S plt (.lst [dL l0, dL l1]) = S at H ⊢
  change Hs S [(p, handMO k), (pl, .lst [dRows e0, dRows e1]), (plt, .lst [dL l0, dL l1])] at H
  -- the copies
  generalize hM0 : [(p, handMO k), (pl, .lst [dRows e0, dRows e1]), (plt, .lst [dL l0, dL l1])] = M0 at H
  have hpl0 : (pl, MO.lst [dRows e0, dRows e1]) ∈ M0 := by rw [← hM0]; exact List.mem_cons_of_mem _ List.mem_cons_self
  refine seq_k fun q1 n1 _ _ _ _ => ?_
  rw [wSet, wLc, wIt, wVar]
  simp only [getV, some!, seqA_of (H.is _ hpl0), delVs, delV]
  refine ⟨by show 2 ≤ sizeLine; decide, compI_of ⟨seqA_of (H.is _ hpl0), ?_⟩⟩
  simp only [gN, setV, wYes, if_true]
  refine copy_H H (by have := he0.1; omega) fun S cs0 h0 H hc0 hn0 hm0 => ?_
  refine ⟨seqA_of (H.is _ (List.mem_append_left _ (List.mem_append_left _ hpl0))), ?_⟩
  simp only [gN, setV, wYes, if_true]
  refine copy_H H (by have := he1.1; omega) fun S cs1 h1 H hc1 hn1 hm1 => ?_
  generalize hM1 : M0 ++ cs0 ++ [(h0, MO.lst (cs0.map fun x => .ref x.1))] = M1 at H hn1 hm1
  refine ⟨seqA_of (H.is _ (List.mem_append_left _ (List.mem_append_left _ (hM1 ▸ List.mem_append_left _ (List.mem_append_left _ hpl0))))), n1 _ _ ?_⟩
  generalize hM2 : M1 ++ cs1 ++ [(h1, MO.lst (cs1.map fun x => .ref x.1))] = M2 at H
  -- the Stoppers
  refine seq_k fun q1 n1 _ _ _ _ => ?_
  rw [wSet, wLc, wIt, wVar]
  simp only [getV, some!, seqA, seqL, seqM, delVs, delV]
  refine ⟨by show 2 ≤ sizeLine; decide, compI_of ⟨trivial, ?_⟩⟩
  simp only [gN, setV, wYes, if_true, wMake, wCons, wNil, wVar, getV, some!]
  refine fun s0 hs0 => ?_
  have f0 := H.fresh hs0
  have Ha := H.new (m := .ins c.Stopper N_Stopper (noneV N_Stopper)) hs0
  have in0 : (h0, MO.lst (cs0.map fun x => .ref x.1)) ∈ M2 := by rw [← hM2, ← hM1]; simp
  have in1 : (h1, MO.lst (cs1.map fun x => .ref x.1)) ∈ M2 := by rw [← hM2]; simp
  have ic0 : ∀ x, x ∈ cs0 → x ∈ M2 := fun x hx => by rw [← hM2, ← hM1]; simp [hx]
  have ic1 : ∀ x, x ∈ cs1 → x ∈ M2 := fun x hx => by rw [← hM2]; simp [hx]
  have im0 : ∀ x, x ∈ M0 → x ∈ M2 := fun x hx => by rw [← hM2, ← hM1]; simp [hx]
  refine ⟨s0, _, e0, rfl, put_same, ⟨rows_H Ha (List.mem_append_left _ in0) (fun x hx => List.mem_append_left _ (ic0 x hx)) hc0, by have := he0.1; omega⟩, rfl, ?_⟩
  rw [put_put]
  have Hb := H.new (m := stMO c ⟨e0, [], 0, false⟩) hs0
  generalize put S s0 (stMO c ⟨e0, [], 0, false⟩) = S3 at Hb ⊢
  refine ⟨trivial, ?_⟩
  simp only [gN, setV, wYes, if_true, wMake, wCons, wNil, wVar, getV, some!]
  refine fun s1 hs1 => ?_
  have f1 := Hb.fresh hs1
  have Hc := Hb.new (m := .ins c.Stopper N_Stopper (noneV N_Stopper)) hs1
  refine ⟨s1, _, e1, rfl, put_same, ⟨rows_H Hc (List.mem_append_left _ (List.mem_append_left _ in1)) (fun x hx => List.mem_append_left _ (List.mem_append_left _ (ic1 x hx))) hc1, by have := he1.1; omega⟩, rfl, ?_⟩
  rw [put_put]
  have Hd := Hb.new (m := stMO c ⟨e1, [], 0, false⟩) hs1
  generalize put S3 s1 (stMO c ⟨e1, [], 0, false⟩) = S4 at Hd ⊢
  refine ⟨trivial, n1 _ _ ?_⟩
  simp only [List.nil_append, List.cons_append]
  -- what the law changes behind them
  refine seq_k fun q1 n1 _ _ _ _ => ?_
  have HM : Hs S4 (M0 ++ [(s0, stMO c ⟨e0, [], 0, false⟩), (s1, stMO c ⟨e1, [], 0, false⟩)]) := by
    have nd := Hd.nd
    have is := Hd.is
    refine ⟨?_, fun x hx => is x ?_⟩
    · refine List.Sublist.nodup ?_ nd
      refine List.Sublist.map _ ?_
      rw [← hM2, ← hM1]
      simp only [List.append_assoc]
      refine List.Sublist.append_left ?_ _
      refine List.sublist_append_of_sublist_right ?_
      refine List.sublist_append_of_sublist_right ?_
      refine List.sublist_append_of_sublist_right ?_
      refine List.sublist_append_of_sublist_right ?_
      exact List.Sublist.refl _
    · rcases List.mem_append.mp hx with y | y
      · exact List.mem_append_left _ (List.mem_append_left _ (im0 x y))
      · simp at y ⊢
        rcases y with y | y
        · exact .inr (.inl y)
        · exact .inr (.inr y)
  have nM : ∀ a m, (a, m) ∈ M2 → (∀ x, x ∈ M0 → x.1 ≠ a) → ∀ x, x ∈ M0 ++ [(s0, stMO c ⟨e0, [], 0, false⟩), (s1, stMO c ⟨e1, [], 0, false⟩)] → x.1 ≠ a := fun a m ha h x hx => by
    rcases List.mem_append.mp hx with y | y
    · exact h x y
    · simp at y
      rcases y with y | y
      · rw [y]; exact Ne.symm (f0 _ ha)
      · rw [y]; exact Ne.symm (f1 _ (List.mem_append_left _ ha))
  have len0 : cs0.length = e0.length := by have := congrArg List.length hc0; simpa using this
  have len1 : cs1.length = e1.length := by have := congrArg List.length hc1; simpa using this
  have W : Wk S4 (M0 ++ [(s0, stMO c ⟨e0, [], 0, false⟩), (s1, stMO c ⟨e1, [], 0, false⟩)]) [h0, h1] ((cs0 ++ cs1).map Prod.fst) 20 := by
    refine ⟨HM, fun a ha => ?_, fun b hb => ?_⟩
    · rcases List.mem_cons.mp ha with rfl | ha
      · refine ⟨nM _ _ in0 fun x hx => hn0 x (List.mem_append_left _ hx), _, Hd.is _ (List.mem_append_left _ (List.mem_append_left _ in0)), by rw [List.length_map]; have := he0.1; omega, fun r hr => ?_⟩
        obtain ⟨x, hx, rfl⟩ := List.mem_map.mp hr
        exact ⟨x.1, List.mem_map_of_mem (List.mem_append_left _ hx), rfl⟩
      · rw [List.mem_singleton.mp ha]
        refine ⟨nM _ _ in1 fun x hx => hn1 x (List.mem_append_left _ (by rw [← hM1]; simp [hx])), _, Hd.is _ (List.mem_append_left _ (List.mem_append_left _ in1)), by rw [List.length_map]; have := he1.1; omega, fun r hr => ?_⟩
        obtain ⟨x, hx, rfl⟩ := List.mem_map.mp hr
        exact ⟨x.1, List.mem_map_of_mem (List.mem_append_right _ hx), rfl⟩
    · obtain ⟨x, hx, rfl⟩ := List.mem_map.mp hb
      have cont : ∀ (cs : List (Addr × MO)) (e : List (List Int)), (∀ s, s ∈ e → s ≠ [] ∧ s.length ≤ 4) → cs.map Prod.snd = e.map (fun s => MO.lst (s.map D.int)) → x ∈ cs → ∃ ns, x.2 = .lst ns ∧ ns.length ≤ 20 := fun cs e he h hx => by
        have : x.2 ∈ cs.map Prod.snd := List.mem_map_of_mem hx
        rw [h] at this
        obtain ⟨s, hs, e2⟩ := List.mem_map.mp this
        exact ⟨_, e2.symm, by rw [List.length_map]; have := (he s hs).2; omega⟩
      rcases List.mem_append.mp hx with y | y
      · refine ⟨nM x.1 x.2 (ic0 x y) fun z hz => hm0 z x hz y, fun q => ?_, ?_⟩
        · rcases List.mem_cons.mp q with q | q
          · exact hn0 x (List.mem_append_right _ y) q
          · exact hn1 x (List.mem_append_left _ (by rw [← hM1]; simp [y])) (List.mem_singleton.mp q)
        · obtain ⟨ns, g1, g2⟩ := cont cs0 e0 he0.2 hc0 y
          exact ⟨ns, by rw [← g1]; exact Hd.is x (List.mem_append_left _ (List.mem_append_left _ (ic0 x y))), g2⟩
      · refine ⟨nM x.1 x.2 (ic1 x y) fun z hz => hm1 z x (by rw [← hM1]; simp [hz]) y, fun q => ?_, ?_⟩
        · rcases List.mem_cons.mp q with q | q
          · exact hm1 (h0, MO.lst (cs0.map fun x => .ref x.1)) x (by rw [← hM1]; simp) y q.symm
          · exact hn1 x (List.mem_append_right _ y) (List.mem_singleton.mp q)
        · obtain ⟨ns, g1, g2⟩ := cont cs1 e1 he1.2 hc1 y
          exact ⟨ns, by rw [← g1]; exact Hd.is x (List.mem_append_left _ (List.mem_append_left _ (ic1 x y))), g2⟩
  refine junk_loop (c := c) W fun S a8 H => n1 _ _ ?_
  rw [← hM0] at H
  clear hn0 hm0 hn1 hm1 Hd Hc Hb Ha HM nM W
  refine seq_k fun q1 n1 _ _ _ _ => ?_
  simp only [wSet, wLst, wLstM, wCons, wNil, setV]
  refine ⟨Nat.zero_le _, fun t0 ht0 => ?_⟩
  replace H := H.new (m := .lst []) ht0
  generalize put S t0 (.lst []) = S at H ⊢
  refine ⟨Nat.zero_le _, fun t1 ht1 => ?_⟩
  replace H := H.new (m := .lst []) ht1
  generalize put S t1 (.lst []) = S at H ⊢
  refine ⟨by show 2 ≤ sizeLine; decide, n1 _ _ ?_⟩
  refine seq_k fun q1 n1 _ _ _ _ => ?_
  simp only [wSet, wLst, wLstM, wC, wCons, wNil, setV]
  refine ⟨by show 2 ≤ sizeLine; decide, fun u0 hu0 => ?_⟩
  replace H := H.new (m := .lst [.int 0, .bl false]) hu0
  generalize put S u0 (.lst [.int 0, .bl false]) = S at H ⊢
  refine ⟨by show 2 ≤ sizeLine; decide, fun u1 hu1 => ?_⟩
  replace H := H.new (m := .lst [.int 0, .bl false]) hu1
  generalize put S u1 (.lst [.int 0, .bl false]) = S at H ⊢
  refine ⟨by show 2 ≤ sizeLine; decide, n1 _ _ ?_⟩
  have nd := H.nd
  have is := H.is
  simp only [List.map_append, List.map_cons, List.map_nil, List.cons_append, List.nil_append, List.nodup_cons, List.mem_cons, List.not_mem_nil, or_false, not_or, List.nodup_nil, not_false_eq_true, and_true] at nd
  obtain ⟨⟨b1, b2, b3, b4, b5, b6, b7, b8⟩, ⟨d1, d2, d3, d4, d5, d6, d7⟩, ⟨g1, g2, g3, g4, g5, g6⟩, ⟨i1, i2, i3, i4, i5⟩, ⟨j1, j2, j3, j4⟩, ⟨k1, k2, k3⟩, ⟨m1, m2⟩, n9⟩ := nd
  have fp := is (p, _) List.mem_cons_self
  have fpl := is (pl, .lst [dRows e0, dRows e1]) (by simp)
  have fplt := is (plt, .lst [dL l0, dL l1]) (by simp)
  have fs0 := is (s0, stMO c ⟨e0, [], 0, false⟩) (by simp)
  have fs1 := is (s1, stMO c ⟨e1, [], 0, false⟩) (by simp)
  have ft0 := is (t0, .lst []) (by simp)
  have ft1 := is (t1, .lst []) (by simp)
  have fu0 := is (u0, .lst [.int 0, .bl false]) (by simp)
  have fu1 := is (u1, .lst [.int 0, .bl false]) (by simp)
  have go : ∀ a t u e, t ≠ a → u ≠ a → t ≠ u → S a = some (stMO c ⟨e, [], 0, false⟩) → S t = some (.lst []) → S u = some (.lst [.int 0, .bl false]) → Goes c S a t u e [] := fun a t u e q1 q2 q3 q4 q5 q6 => by
    have z := heldF_le e []
    have z' : heldF e [] = 0 := Nat.le_zero.mp z
    exact ⟨⟨q1, q2, q3⟩, q5, _, 0, false, q4, q6, rfl, rfl, fun q => absurd q (by decide), fun _ => ⟨by rw [z']; rfl, List.drop_nil.symm⟩⟩
  let N : Nm := ⟨p, pl, plt, fun w => cond w s1 s0, fun w => cond w t1 t0, fun w => cond w u1 u0, fun w => cond w e1 e0, fun w => cond w l1 l0⟩
  have o : NmOk N := by
    refine ⟨fun w => ?_, fun w => ?_, fun w => ?_, fun w => ?_, fun w => ?_, fun w => ?_, ?_, fun w => ?_, ?_⟩
    · cases w
      · exact ⟨b3, b5, b7⟩
      · exact ⟨b4, b6, b8⟩
    · cases w
      · exact ⟨d2, d4, d6⟩
      · exact ⟨d3, d5, d7⟩
    · cases w
      · exact ⟨g1, g3, g5⟩
      · exact ⟨g2, g4, g6⟩
    · cases w
      · exact ⟨Ne.symm i1, j1, j3⟩
      · exact ⟨i1, i3, i5⟩
    · cases w
      · exact ⟨Ne.symm i3, Ne.symm k1, m1⟩
      · exact ⟨Ne.symm j1, k1, k3⟩
    · cases w
      · exact ⟨Ne.symm i5, Ne.symm k3, Ne.symm n9⟩
      · exact ⟨Ne.symm j3, Ne.symm m1, n9⟩
    · exact ⟨Ne.symm b1, Ne.symm b2⟩
    · cases w
      · exact he0
      · exact he1
    · refine ⟨?_, ?_⟩
      · show l0.length ≤ 23; omega
      · show l1.length ≤ 45; omega
  have hL : LI c S N fun _ => [] := by
    refine ⟨⟨_, ok, fp⟩, fpl, fplt, fun w => ?_⟩
    cases w
    · exact go _ _ _ _ (Ne.symm i2) (Ne.symm i4) k2 fs0 ft0 fu0
    · exact go _ _ _ _ (Ne.symm j2) (Ne.symm j4) m2 fs1 ft1 fu1
  exact law_tailB (N := N) o hL hq
end K90
set_option Elab.async false
set_option linter.all false
set_option maxRecDepth 100000
set_option maxHeartbeats 4000000
namespace K90
open PySem PySem.Spec PyProof.Rows L2 DL
def topS (i : Nat) : Stmt := PySem.Challenge.pw_everyasked_k90_whole_stoppers_letter_by.main.body.getD i (.Pass ⟨0, 0, 0, 0⟩)
abbrev s_stop_length : Stmt := topS 2
abbrev s_held_back : Stmt := topS 4
abbrev s_Stopper_init : Stmt := inClass (topS 6) 0
abbrev s_Stopper_has_stopped : Stmt := inClass (topS 6) 1
abbrev s_Stopper_letters_held : Stmt := inClass (topS 6) 2
abbrev s_Stopper_feed : Stmt := inClass (topS 6) 3
abbrev s__law_hand : Stmt := topS 8
abbrev s__law_draw : Stmt := topS 9
abbrev s__law_same : Stmt := topS 10
abbrev s__law_stopped : Stmt := topS 11
abbrev s__law_held : Stmt := topS 12
abbrev s__law_alphabet : Stmt := topS 13
abbrev s__law_row : Stmt := topS 14
abbrev s__law_ends : Stmt := topS 15
abbrev s__law_near : Stmt := topS 16
abbrev s__law_long : Stmt := topS 17
abbrev s__law_looked : Stmt := topS 18
abbrev s__law_read_on : Stmt := topS 19
abbrev s__law_closing : Stmt := topS 20
abbrev s_law : Stmt := topS 21
theorem sc_stop_length : FnScope N_stop_length_ ["stops", "text"] (defScope s_stop_length) := ⟨rfl, rfl, rfl, by decide +kernel, rfl, by decide +kernel, by decide +kernel⟩
theorem sc_held_back : FnScope N_held_back_ ["stops", "text"] (defScope s_held_back) := ⟨rfl, rfl, rfl, by decide +kernel, rfl, by decide +kernel, by decide +kernel⟩
theorem sc_Stopper_init : FnScope N_Stopper_init_ ["self", "stops"] (defScope s_Stopper_init) := ⟨rfl, rfl, rfl, by decide +kernel, rfl, by decide +kernel, by decide +kernel⟩
theorem sc_Stopper_has_stopped : FnScope N_Stopper_has_stopped_ ["self"] (defScope s_Stopper_has_stopped) := ⟨rfl, rfl, rfl, by decide +kernel, rfl, by decide +kernel, by decide +kernel⟩
theorem sc_Stopper_letters_held : FnScope N_Stopper_letters_held_ ["self"] (defScope s_Stopper_letters_held) := ⟨rfl, rfl, rfl, by decide +kernel, rfl, by decide +kernel, by decide +kernel⟩
theorem sc_Stopper_feed : FnScope N_Stopper_feed_ ["self", "letter"] (defScope s_Stopper_feed) := ⟨rfl, rfl, rfl, by decide +kernel, rfl, by decide +kernel, by decide +kernel⟩
theorem sc__law_hand : FnScope N__law_hand_ ["script"] (defScope s__law_hand) := ⟨rfl, rfl, rfl, by decide +kernel, rfl, by decide +kernel, by decide +kernel⟩
theorem sc__law_draw : FnScope N__law_draw_ ["hand", "many"] (defScope s__law_draw) := ⟨rfl, rfl, rfl, by decide +kernel, rfl, by decide +kernel, by decide +kernel⟩
theorem sc__law_same : FnScope N__law_same_ ["told", "due"] (defScope s__law_same) := ⟨rfl, rfl, rfl, by decide +kernel, rfl, by decide +kernel, by decide +kernel⟩
theorem sc__law_stopped : FnScope N__law_stopped_ ["ends", "text"] (defScope s__law_stopped) := ⟨rfl, rfl, rfl, by decide +kernel, rfl, by decide +kernel, by decide +kernel⟩
theorem sc__law_held : FnScope N__law_held_ ["ends", "text"] (defScope s__law_held) := ⟨rfl, rfl, rfl, by decide +kernel, rfl, by decide +kernel, by decide +kernel⟩
theorem sc__law_alphabet : FnScope N__law_alphabet_ ["hand"] (defScope s__law_alphabet) := ⟨rfl, rfl, rfl, by decide +kernel, rfl, by decide +kernel, by decide +kernel⟩
theorem sc__law_row : FnScope N__law_row_ ["hand", "alphabet", "least", "more"] (defScope s__law_row) := ⟨rfl, rfl, rfl, by decide +kernel, rfl, by decide +kernel, by decide +kernel⟩
theorem sc__law_ends : FnScope N__law_ends_ ["hand", "alphabet", "most"] (defScope s__law_ends) := ⟨rfl, rfl, rfl, by decide +kernel, rfl, by decide +kernel, by decide +kernel⟩
theorem sc__law_near : FnScope N__law_near_ ["hand", "ends", "alphabet", "many"] (defScope s__law_near) := ⟨rfl, rfl, rfl, by decide +kernel, rfl, by decide +kernel, by decide +kernel⟩
theorem sc__law_long : FnScope N__law_long_ ["hand", "alphabet"] (defScope s__law_long) := ⟨rfl, rfl, rfl, by decide +kernel, rfl, by decide +kernel, by decide +kernel⟩
theorem sc__law_looked : FnScope N__law_looked_ ["stopper", "ends", "text", "state"] (defScope s__law_looked) := ⟨rfl, rfl, rfl, by decide +kernel, rfl, by decide +kernel, by decide +kernel⟩
theorem sc__law_read_on : FnScope N__law_read_on_ ["stopper", "ends", "text", "state", "letter"] (defScope s__law_read_on) := ⟨rfl, rfl, rfl, by decide +kernel, rfl, by decide +kernel, by decide +kernel⟩
theorem sc__law_closing : FnScope N__law_closing_ [] (defScope s__law_closing) := ⟨rfl, rfl, rfl, by decide +kernel, rfl, by decide +kernel, by decide +kernel⟩
theorem sc_law : FnScope N_law_ ["script"] (defScope s_law) := ⟨rfl, rfl, rfl, by decide +kernel, rfl, by decide +kernel, by decide +kernel⟩
structure Txt (K : PySem.W.Frag) (mg : Str → Option Value) (c : Cl) : Prop where
  b_all : mg "all" = none
  b_bool : mg "bool" = none
  b_int : mg "int" = none
  b_isinstance : mg "isinstance" = none
  b_len : mg "len" = none
  b_list : mg "list" = none
  b_max : mg "max" = none
  b_min : mg "min" = none
  b_range : mg "range" = none
  b_str : mg "str" = none
  b_tuple : mg "tuple" = none
  d_stop_length : DefAt K mg "stop_length" "stop_length" s_stop_length ["stops", "text"]
  d_held_back : DefAt K mg "held_back" "held_back" s_held_back ["stops", "text"]
  i_Stopper_init : MkAt K c.Stopper "Stopper.__init__" s_Stopper_init ["self", "stops"]
  m_Stopper_has_stopped : MetAt K c.Stopper "has_stopped" "Stopper.has_stopped" s_Stopper_has_stopped ["self"]
  m_Stopper_letters_held : MetAt K c.Stopper "letters_held" "Stopper.letters_held" s_Stopper_letters_held ["self"]
  m_Stopper_feed : MetAt K c.Stopper "feed" "Stopper.feed" s_Stopper_feed ["self", "letter"]
  d__law_hand : DefAt K mg "_law_hand" "_law_hand" s__law_hand ["script"]
  d__law_draw : DefAt K mg "_law_draw" "_law_draw" s__law_draw ["hand", "many"]
  d__law_same : DefAt K mg "_law_same" "_law_same" s__law_same ["told", "due"]
  d__law_stopped : DefAt K mg "_law_stopped" "_law_stopped" s__law_stopped ["ends", "text"]
  d__law_held : DefAt K mg "_law_held" "_law_held" s__law_held ["ends", "text"]
  d__law_alphabet : DefAt K mg "_law_alphabet" "_law_alphabet" s__law_alphabet ["hand"]
  d__law_row : DefAt K mg "_law_row" "_law_row" s__law_row ["hand", "alphabet", "least", "more"]
  d__law_ends : DefAt K mg "_law_ends" "_law_ends" s__law_ends ["hand", "alphabet", "most"]
  d__law_near : DefAt K mg "_law_near" "_law_near" s__law_near ["hand", "ends", "alphabet", "many"]
  d__law_long : DefAt K mg "_law_long" "_law_long" s__law_long ["hand", "alphabet"]
  d__law_looked : DefAt K mg "_law_looked" "_law_looked" s__law_looked ["stopper", "ends", "text", "state"]
  d__law_read_on : DefAt K mg "_law_read_on" "_law_read_on" s__law_read_on ["stopper", "ends", "text", "state", "letter"]
  d__law_closing : DefAt K mg "_law_closing" "_law_closing" s__law_closing []
  d_law : DefAt K mg "law" "law" s_law ["script"]
  cl_Stopper : Cls K c.Stopper
  mk_Stopper : mg "Stopper" = some (.ref c.Stopper)
  na_Stopper_stops : NoAttr K c.Stopper "stops"
  na_Stopper_held : NoAttr K c.Stopper "held"
  na_Stopper_many : NoAttr K c.Stopper "many"
  na_Stopper_is_stopped : NoAttr K c.Stopper "is_stopped"
section
variable {P : Program} {w : World} {K : PySem.W.Frag} {mg : Str → Option Value} {base : Heap} {c : Cl}
theorem ok_stop_length (T : Txt K mg c) : FnC P w K mg base 1 "stop_length" ["stops", "text"] (sp_stop_length c) :=
  FnC.mk T.d_stop_length sc_stop_length (by decide) (len_stop_length c) (fun f cdv A outer s H E hr => (pss_consD (pds_set (i := 2) sc_stop_length.nd rfl (by first | exact Or.inl rfl | exact Or.inr rfl) pd_int)
  (pss_consD (pds_for (vs := (List.range 4)) rfl (passes_of rfl) (pdi_seq (pd_var 0)) (pdg_name (i := 3) sc_stop_length.nd rfl (by first | exact Or.inl rfl | exact Or.inr rfl) (by decide)) (pss_oneD (pds_if (PDw.pt (pdw_and (pdt_chain opd_lt opd_le (pd_var 2) (pd_callB cd_len T.b_len (by decide +kernel) (pda_cons (pd_var 3) pda_nil)) (pd_callB cd_len T.b_len (by decide +kernel) (pda_cons (pd_var 1) pda_nil))) (pdw_and1 (pdt_cmp (opd_eq hr.units) (pd_slice (pd_var 1) (pdo_some (pd_op opd_sub (pd_callB cd_len T.b_len (by decide +kernel) (pda_cons (pd_var 1) pda_nil)) (pd_callB cd_len T.b_len (by decide +kernel) (pda_cons (pd_var 3) pda_nil)))) pdo_none) (pd_var 3) (nomark _))))) (pss_oneD (pds_set (i := 2) sc_stop_length.nd rfl (by first | exact Or.inl rfl | exact Or.inr rfl) (pd_callB cd_len T.b_len (by decide +kernel) (pda_cons (pd_var 3) pda_nil)))) pss_nilD)))
  (pss_oneD (pds_ret (pd_var 2)))))) (rd_stop_length c)
theorem ok_held_back (T : Txt K mg c) : FnC P w K mg base 1 "held_back" ["stops", "text"] (sp_held_back c) :=
  FnC.mk T.d_held_back sc_held_back (by decide) (len_held_back c) (fun f cdv A outer s H E hr => (pss_consD (pds_set (i := 1) sc_held_back.nd rfl (by first | exact Or.inl rfl | exact Or.inr rfl) (pd_callTy cd_tuple T.b_tuple (by decide +kernel) (pda_cons (pd_var 1) pda_nil)))
  (pss_consD (pds_set (i := 2) sc_held_back.nd rfl (by first | exact Or.inl rfl | exact Or.inr rfl) pd_int)
  (pss_consD (pds_for (vs := (List.range 5)) rfl (passes_of rfl) (pdi_seq (pd_var 0)) (pdg_name (i := 3) sc_held_back.nd rfl (by first | exact Or.inl rfl | exact Or.inr rfl) (by decide)) (pss_oneD (pds_for (vs := (List.range 5)) rfl (passes_of rfl) (pdi_rg2 T.b_range pd_int (pd_callB (cd_min2 rfl) T.b_min (by decide +kernel) (pda_cons (pd_callB cd_len T.b_len (by decide +kernel) (pda_cons (pd_var 3) pda_nil)) (pda_cons (pd_op opd_add (pd_callB cd_len T.b_len (by decide +kernel) (pda_cons (pd_var 1) pda_nil)) pd_int) pda_nil)))) (pdg_name (i := 4) sc_held_back.nd rfl (by first | exact Or.inl rfl | exact Or.inr rfl) (by decide)) (pss_oneD (pds_if (PDw.pt (pdw_and (pdt_cmp opd_gt (pd_var 4) (pd_var 2) (nomark _)) (pdw_and1 (pdt_cmp (opd_eq hr.units) (pd_slice (pd_var 1) (pdo_some (pd_op opd_sub (pd_callB cd_len T.b_len (by decide +kernel) (pda_cons (pd_var 1) pda_nil)) (pd_var 4))) pdo_none) (pd_callTy cd_tuple T.b_tuple (by decide +kernel) (pda_cons (pd_slice (pd_var 3) pdo_none (pdo_some (pd_var 4))) pda_nil)) (nomark _))))) (pss_oneD (pds_set (i := 2) sc_held_back.nd rfl (by first | exact Or.inl rfl | exact Or.inr rfl) (pd_var 4))) pss_nilD)))))
  (pss_oneD (pds_ret (pd_var 2))))))) (rd_held_back c)
theorem ok_Stopper_init (T : Txt K mg c) : MkC P w K mg base c.Stopper 1 ["self", "stops"] (sp_Stopper_init c) :=
  MkC.mk T.i_Stopper_init sc_Stopper_init (by decide) (len_Stopper_init c) (fun f cdv A outer s H E hr => (pss_consD (pds_setF (N := N_Stopper) (i := 0) T.cl_Stopper T.na_Stopper_stops rfl (pd_var 0) (pd_callTy cd_tuple T.b_tuple (by decide +kernel) (pda_cons (pd_lc (own := [("stop", 2)]) rfl sc_Stopper_init.nd (pdi_seq (pd_var 1)) (blkOk_by (N := N_Stopper_init_) (sc := defScope s_Stopper_init) (by decide +kernel)) (fun _ _ _ _ _ => (pdg_name (i := 2) sc_Stopper_init.nd rfl (by first | exact Or.inl rfl | exact Or.inr rfl) (by decide))) (fun _ _ _ _ _ => pdts_nil) (fun _ _ _ _ _ => (pd_callTy cd_tuple T.b_tuple (by decide +kernel) (pda_cons (pd_var 2) pda_nil)))) pda_nil)))
  (pss_consD (pds_setF (N := N_Stopper) (i := 1) T.cl_Stopper T.na_Stopper_held rfl (pd_var 0) (pd_tup pda_nil))
  (pss_consD (pds_setF (N := N_Stopper) (i := 2) T.cl_Stopper T.na_Stopper_many rfl (pd_var 0) pd_int)
  (pss_oneD (pds_setF (N := N_Stopper) (i := 3) T.cl_Stopper T.na_Stopper_is_stopped rfl (pd_var 0) pd_bl)))))) (rd_Stopper_init c)
theorem ok_Stopper_has_stopped (T : Txt K mg c) : MtC P w K mg base c.Stopper 1 "has_stopped" ["self"] (sp_Stopper_has_stopped c) :=
  MtC.mk T.m_Stopper_has_stopped sc_Stopper_has_stopped (by decide) (len_Stopper_has_stopped c) (fun f cdv A outer s H E hr => (pss_oneD (pds_ret (pd_fld (N := N_Stopper) (i := 3) T.cl_Stopper T.na_Stopper_is_stopped rfl (pd_var 0))))) (rd_Stopper_has_stopped c)
theorem ok_Stopper_letters_held (T : Txt K mg c) : MtC P w K mg base c.Stopper 1 "letters_held" ["self"] (sp_Stopper_letters_held c) :=
  MtC.mk T.m_Stopper_letters_held sc_Stopper_letters_held (by decide) (len_Stopper_letters_held c) (fun f cdv A outer s H E hr => (pss_oneD (pds_ret (pd_fld (N := N_Stopper) (i := 1) T.cl_Stopper T.na_Stopper_held rfl (pd_var 0))))) (rd_Stopper_letters_held c)
theorem ok_Stopper_feed (T : Txt K mg c) : MtC P w K mg base c.Stopper 2 "feed" ["self", "letter"] (sp_Stopper_feed c) :=
  MtC.mk T.m_Stopper_feed sc_Stopper_feed (by decide) (len_Stopper_feed c) (fun f cdv A outer s H E hr => (pss_consD (pds_if (pdt_val (pd_fld (N := N_Stopper) (i := 3) T.cl_Stopper T.na_Stopper_is_stopped rfl (pd_var 0))) (pss_oneD (pds_ret (pd_tup pda_nil))) pss_nilD)
  (pss_consD (pds_set (i := 2) sc_Stopper_feed.nd rfl (by first | exact Or.inl rfl | exact Or.inr rfl) (pd_op opd_add (pd_fld (N := N_Stopper) (i := 1) T.cl_Stopper T.na_Stopper_held rfl (pd_var 0)) (pd_tup (pda_cons (pd_var 1) pda_nil))))
  (pss_consD (pds_set (i := 3) sc_Stopper_feed.nd rfl (by first | exact Or.inl rfl | exact Or.inr rfl) (pd_fn (ok_stop_length T) (hr.mono (by decide)) (pda_cons (pd_fld (N := N_Stopper) (i := 0) T.cl_Stopper T.na_Stopper_stops rfl (pd_var 0)) (pda_cons (pd_var 2) pda_nil))))
  (pss_consD (pds_if (pdt_cmp opd_gt (pd_var 3) pd_int (nomark _)) (pss_consD (pds_setF (N := N_Stopper) (i := 3) T.cl_Stopper T.na_Stopper_is_stopped rfl (pd_var 0) pd_bl)
  (pss_consD (pds_setF (N := N_Stopper) (i := 1) T.cl_Stopper T.na_Stopper_held rfl (pd_var 0) (pd_tup pda_nil))
  (pss_consD (pds_augF (N := N_Stopper) (i := 2) T.cl_Stopper T.na_Stopper_many rfl (pd_var 0) (pd_op opd_sub (pd_callB cd_len T.b_len (by decide +kernel) (pda_cons (pd_var 2) pda_nil)) (pd_var 3)) iopd_add)
  (pss_oneD (pds_ret (pd_slice (pd_var 2) pdo_none (pdo_some (pd_op opd_sub (pd_callB cd_len T.b_len (by decide +kernel) (pda_cons (pd_var 2) pda_nil)) (pd_var 3))))))))) pss_nilD)
  (pss_consD (pds_set (i := 4) sc_Stopper_feed.nd rfl (by first | exact Or.inl rfl | exact Or.inr rfl) (pd_fn (ok_held_back T) (hr.mono (by decide)) (pda_cons (pd_fld (N := N_Stopper) (i := 0) T.cl_Stopper T.na_Stopper_stops rfl (pd_var 0)) (pda_cons (pd_var 2) pda_nil))))
  (pss_consD (pds_setF (N := N_Stopper) (i := 1) T.cl_Stopper T.na_Stopper_held rfl (pd_var 0) (pd_slice (pd_var 2) (pdo_some (pd_op opd_sub (pd_callB cd_len T.b_len (by decide +kernel) (pda_cons (pd_var 2) pda_nil)) (pd_var 4))) pdo_none))
  (pss_consD (pds_augF (N := N_Stopper) (i := 2) T.cl_Stopper T.na_Stopper_many rfl (pd_var 0) (pd_op opd_sub (pd_callB cd_len T.b_len (by decide +kernel) (pda_cons (pd_var 2) pda_nil)) (pd_var 4)) iopd_add)
  (pss_oneD (pds_ret (pd_slice (pd_var 2) pdo_none (pdo_some (pd_op opd_sub (pd_callB cd_len T.b_len (by decide +kernel) (pda_cons (pd_var 2) pda_nil)) (pd_var 4)))))))))))))) (rd_Stopper_feed c)
theorem ok__law_hand (T : Txt K mg c) : FnC P w K mg base 1 "_law_hand" ["script"] (sp__law_hand c) :=
  FnC.mk T.d__law_hand sc__law_hand (by decide) (len__law_hand c) (fun f cdv A outer s H E hr => (pss_oneD (pds_ret (pd_lstM (pda_cons (pd_lc (own := [("cell", 1)]) rfl sc__law_hand.nd (pdi_seq (pd_slice (pd_var 0) pdo_none (pdo_some pd_int))) (blkOk_by (N := N__law_hand_) (sc := defScope s__law_hand) (by decide +kernel)) (fun _ _ _ _ _ => (pdg_name (i := 1) sc__law_hand.nd rfl (by first | exact Or.inl rfl | exact Or.inr rfl) (by decide))) (fun _ _ _ _ _ => pdts_nil) (fun _ _ _ _ _ => (pd_callTy cd_int T.b_int (by decide +kernel) (pda_cons (pd_var 1) pda_nil)))) (pda_cons pd_int (pda_cons pd_int (pda_cons pd_int pda_nil)))))))) (rd__law_hand c)
theorem ok__law_draw (T : Txt K mg c) : FnC P w K mg base 1 "_law_draw" ["hand", "many"] (sp__law_draw c) :=
  FnC.mk T.d__law_draw sc__law_draw (by decide) (len__law_draw c) (fun f cdv A outer s H E hr => (pss_consD (pds_if (PDw.pt (pdw_and (pdt_cmp (opd_eq hr.units) (pd_ix ixd (pd_var 0) pd_int) pd_int (nomark _)) (pdw_and1 (pdt_cmp opd_lt (pd_ix ixd (pd_var 0) pd_int) (pd_callB cd_len T.b_len (by decide +kernel) (pda_cons (pd_ix ixd (pd_var 0) pd_int) pda_nil)) (nomark _))))) (pss_consD (pds_set (i := 2) sc__law_draw.nd rfl (by first | exact Or.inl rfl | exact Or.inr rfl) (pd_ix ixd (pd_ix ixd (pd_var 0) pd_int) (pd_ix ixd (pd_var 0) pd_int)))
  (pss_consD (pds_setI (pd_var 0) pd_int (pd_op opd_add (pd_ix ixd (pd_var 0) pd_int) pd_int))
  (pss_consD (pds_if (pdt_cmp opd_ge (pd_var 2) (pd_op opd_pow pd_int pd_int) (nomark _)) (pss_oneD (pds_setI (pd_var 0) pd_int (pd_op opd_mod (pd_callTy cd_int T.b_int (by decide +kernel) (pda_cons (pd_var 2) pda_nil)) (pd_op opd_mul (pd_op opd_pow pd_int pd_int) (pd_op opd_pow pd_int pd_int))))) pss_nilD)
  (pss_oneD (pds_setI (pd_var 0) pd_int (pd_op opd_mod (pd_op opd_add (pd_op opd_add (pd_op opd_mul (pd_ix ixd (pd_var 0) pd_int) (pd_ix ixd (pd_var 0) pd_int)) (pd_op opd_mod (pd_callTy cd_int T.b_int (by decide +kernel) (pda_cons (pd_var 2) pda_nil)) pd_int)) (pd_ix ixd (pd_var 0) pd_int)) pd_int)))))) pss_nilD)
  (pss_consD (pds_if (pdt_cmp opd_gt (pd_ix ixd (pd_var 0) pd_int) pd_int (nomark _)) (pss_consD (pds_set (i := 3) sc__law_draw.nd rfl (by first | exact Or.inl rfl | exact Or.inr rfl) (pd_op opd_mod (pd_callTy cd_int T.b_int (by decide +kernel) (pda_cons (pd_ix ixd (pd_var 0) pd_int) pda_nil)) (pd_var 1)))
  (pss_consD (pds_setI (pd_var 0) pd_int (pd_op opd_div (pd_ix ixd (pd_var 0) pd_int) (pd_var 1)))
  (pss_oneD (pds_ret (pd_var 3))))) pss_nilD)
  (pss_consD (pds_setI (pd_var 0) pd_int (pd_op opd_mod (pd_op opd_add (pd_op opd_mul (pd_ix ixd (pd_var 0) pd_int) (pd_ix ixd (pd_var 0) pd_int)) pd_int) pd_int))
  (pss_oneD (pds_ret (pd_op opd_mod (pd_op opd_div (pd_callTy cd_int T.b_int (by decide +kernel) (pda_cons (pd_ix ixd (pd_var 0) pd_int) pda_nil)) pd_int) (pd_var 1)))))))) (rd__law_draw c)
theorem ok__law_same_n (T : Txt K mg c) : ∀ n : Nat, FnC P w K mg base (n + 1) "_law_same" ["told", "due"] (sp__law_same_n c n)
  | 0 => FnC.zero T.d__law_same
  | n + 1 => by
    have ih := ok__law_same_n T n
    exact FnC.mk T.d__law_same (k := n + 1) sc__law_same (by decide) (len__law_same_n c (n + 1)) (fun f cdv A outer s H E hr => (pss_consD (pds_if (pdt_val (pd_isi (T := "tuple") (pd_var 1) (pe_bltn rfl T.b_tuple (by decide +kernel) rfl) T.b_isinstance)) (pss_consD (pds_if (PDw.pt (pdw_or (pdt_not (pdt_val (pd_isi (T := "tuple") (pd_var 0) (pe_bltn rfl T.b_tuple (by decide +kernel) rfl) T.b_isinstance))) (pdw_or1 (pdt_cmp (opd_ne hr.units) (pd_callB cd_len T.b_len (by decide +kernel) (pda_cons (pd_var 0) pda_nil)) (pd_callB cd_len T.b_len (by decide +kernel) (pda_cons (pd_var 1) pda_nil)) (nomark _))))) (pss_oneD (pds_ret pd_bl)) pss_nilD)
  (pss_oneD (pds_ret (pd_callB (cd_all rfl) T.b_all (by decide +kernel) (pda_cons (pd_lc (own := [("k", 2)]) rfl sc__law_same.nd (pdi_rg1 T.b_range (pd_callB cd_len T.b_len (by decide +kernel) (pda_cons (pd_var 1) pda_nil))) (blkOk_by (N := N__law_same_) (sc := defScope s__law_same) (by decide +kernel)) (fun _ _ _ _ _ => (pdg_name (i := 2) sc__law_same.nd rfl (by first | exact Or.inl rfl | exact Or.inr rfl) (by decide))) (fun _ _ _ _ _ => pdts_nil) (fun _ _ _ _ _ => (pd_fn ih (hr.mono (by omega)) (pda_cons (pd_ix ixd (pd_var 0) (pd_var 2)) (pda_cons (pd_ix ixd (pd_var 1) (pd_var 2)) pda_nil))))) pda_nil))))) pss_nilD)
  (pss_consD (pds_if (pdt_cmp opd_isN (pd_var 1) pd_non (nomark _)) (pss_oneD (pds_ret (pd_cmp opd_isN (pd_var 0) pd_non (nomark _)))) pss_nilD)
  (pss_consD (pds_if (pdt_val (pd_isi (T := "bool") (pd_var 1) (pe_bltn rfl T.b_bool (by decide +kernel) rfl) T.b_isinstance)) (pss_oneD (pds_ret (pd_and (pd_isi (T := "bool") (pd_var 0) (pe_bltn rfl T.b_bool (by decide +kernel) rfl) T.b_isinstance) (pd_one (pd_cmp (opd_eq hr.units) (pd_var 0) (pd_var 1) (nomark _)))))) pss_nilD)
  (pss_consD (pds_if (pdt_val (pd_isi (T := "str") (pd_var 1) (pe_bltn rfl T.b_str (by decide +kernel) rfl) T.b_isinstance)) (pss_oneD (pds_ret (pd_and (pd_isi (T := "str") (pd_var 0) (pe_bltn rfl T.b_str (by decide +kernel) rfl) T.b_isinstance) (pd_one (pd_cmp (opd_eq hr.units) (pd_var 0) (pd_var 1) (nomark _)))))) pss_nilD)
  (pss_oneD (pds_ret (pd_and (pd_isi (T := "int") (pd_var 0) (pe_bltn rfl T.b_int (by decide +kernel) rfl) T.b_isinstance) (pd_and (pd_not (pd_isi (T := "bool") (pd_var 0) (pe_bltn rfl T.b_bool (by decide +kernel) rfl) T.b_isinstance)) (pd_one (pd_cmp (opd_eq hr.units) (pd_var 0) (pd_var 1) (nomark _)))))))))))) (rd__law_same c n)
theorem ok__law_same (T : Txt K mg c) : FnC P w K mg base 9 "_law_same" ["told", "due"] (sp__law_same c) := FnC.mono (FnC.imp (ok__law_same_n T 8) (imp__law_same c)) (by decide)
theorem ok__law_stopped (T : Txt K mg c) : FnC P w K mg base 1 "_law_stopped" ["ends", "text"] (sp__law_stopped c) :=
  FnC.mk T.d__law_stopped sc__law_stopped (by decide) (len__law_stopped c) (fun f cdv A outer s H E hr => (pss_consD (pds_set (i := 2) sc__law_stopped.nd rfl (by first | exact Or.inl rfl | exact Or.inr rfl) pd_int)
  (pss_consD (pds_for (vs := (List.range 4)) rfl (passes_of rfl) (pdi_seq (pd_var 0)) (pdg_name (i := 3) sc__law_stopped.nd rfl (by first | exact Or.inl rfl | exact Or.inr rfl) (by decide)) (pss_oneD (pds_if (PDw.pt (pdw_and (pdt_cmp opd_le (pd_callB cd_len T.b_len (by decide +kernel) (pda_cons (pd_var 3) pda_nil)) (pd_callB cd_len T.b_len (by decide +kernel) (pda_cons (pd_var 1) pda_nil)) (nomark _)) (pdw_and1 (pdt_cmp (opd_eq hr.units) (pd_callTy cd_list T.b_list (by decide +kernel) (pda_cons (pd_var 3) pda_nil)) (pd_callTy cd_list T.b_list (by decide +kernel) (pda_cons (pd_slice (pd_var 1) (pdo_some (pd_op opd_sub (pd_callB cd_len T.b_len (by decide +kernel) (pda_cons (pd_var 1) pda_nil)) (pd_callB cd_len T.b_len (by decide +kernel) (pda_cons (pd_var 3) pda_nil)))) pdo_none) pda_nil)) (nomark _))))) (pss_oneD (pds_set (i := 2) sc__law_stopped.nd rfl (by first | exact Or.inl rfl | exact Or.inr rfl) (pd_callB (cd_max2 rfl) T.b_max (by decide +kernel) (pda_cons (pd_var 2) (pda_cons (pd_callB cd_len T.b_len (by decide +kernel) (pda_cons (pd_var 3) pda_nil)) pda_nil))))) pss_nilD)))
  (pss_oneD (pds_ret (pd_var 2)))))) (rd__law_stopped c)
theorem ok__law_held (T : Txt K mg c) : FnC P w K mg base 1 "_law_held" ["ends", "text"] (sp__law_held c) :=
  FnC.mk T.d__law_held sc__law_held (by decide) (len__law_held c) (fun f cdv A outer s H E hr => (pss_consD (pds_set (i := 2) sc__law_held.nd rfl (by first | exact Or.inl rfl | exact Or.inr rfl) pd_int)
  (pss_consD (pds_for (vs := (List.range 5)) rfl (passes_of rfl) (pdi_seq (pd_var 0)) (pdg_name (i := 3) sc__law_held.nd rfl (by first | exact Or.inl rfl | exact Or.inr rfl) (by decide)) (pss_oneD (pds_for (vs := (List.range 5)) rfl (passes_of rfl) (pdi_rg2 T.b_range pd_int (pd_callB cd_len T.b_len (by decide +kernel) (pda_cons (pd_var 3) pda_nil))) (pdg_name (i := 4) sc__law_held.nd rfl (by first | exact Or.inl rfl | exact Or.inr rfl) (by decide)) (pss_oneD (pds_if (PDw.pt (pdw_and (pdt_cmp opd_le (pd_var 4) (pd_callB cd_len T.b_len (by decide +kernel) (pda_cons (pd_var 1) pda_nil)) (nomark _)) (pdw_and1 (pdt_cmp (opd_eq hr.units) (pd_callTy cd_list T.b_list (by decide +kernel) (pda_cons (pd_slice (pd_var 3) pdo_none (pdo_some (pd_var 4))) pda_nil)) (pd_callTy cd_list T.b_list (by decide +kernel) (pda_cons (pd_slice (pd_var 1) (pdo_some (pd_op opd_sub (pd_callB cd_len T.b_len (by decide +kernel) (pda_cons (pd_var 1) pda_nil)) (pd_var 4))) pdo_none) pda_nil)) (nomark _))))) (pss_oneD (pds_set (i := 2) sc__law_held.nd rfl (by first | exact Or.inl rfl | exact Or.inr rfl) (pd_callB (cd_max2 rfl) T.b_max (by decide +kernel) (pda_cons (pd_var 2) (pda_cons (pd_var 4) pda_nil))))) pss_nilD)))))
  (pss_oneD (pds_ret (pd_var 2)))))) (rd__law_held c)
theorem ok__law_alphabet (T : Txt K mg c) : FnC P w K mg base 2 "_law_alphabet" ["hand"] (sp__law_alphabet c) :=
  FnC.mk T.d__law_alphabet sc__law_alphabet (by decide) (len__law_alphabet c) (fun f cdv A outer s H E hr => (pss_consD (pds_set (i := 1) sc__law_alphabet.nd rfl (by first | exact Or.inl rfl | exact Or.inr rfl) (pd_fn (ok__law_draw T) (hr.mono (by decide)) (pda_cons (pd_var 0) (pda_cons pd_int pda_nil))))
  (pss_consD (pds_set (i := 2) sc__law_alphabet.nd rfl (by first | exact Or.inl rfl | exact Or.inr rfl) (pd_ix ixd (pd_tup (pda_cons pd_int (pda_cons pd_int (pda_cons pd_int (pda_cons pd_int pda_nil))))) (pd_fn (ok__law_draw T) (hr.mono (by decide)) (pda_cons (pd_var 0) (pda_cons pd_int pda_nil)))))
  (pss_oneD (pds_ret (pd_lc (own := [("k", 3)]) rfl sc__law_alphabet.nd (pdi_rg1 T.b_range (pd_op opd_add pd_int (pd_fn (ok__law_draw T) (hr.mono (by decide)) (pda_cons (pd_var 0) (pda_cons pd_int pda_nil))))) (blkOk_by (N := N__law_alphabet_) (sc := defScope s__law_alphabet) (by decide +kernel)) (fun _ _ _ _ _ => (pdg_name (i := 3) sc__law_alphabet.nd rfl (by first | exact Or.inl rfl | exact Or.inr rfl) (by decide))) (fun _ _ _ _ _ => pdts_nil) (fun _ _ _ _ _ => (pd_op opd_mod (pd_callTy cd_int T.b_int (by decide +kernel) (pda_cons (pd_op opd_add (pd_var 1) (pd_op opd_mul (pd_var 3) (pd_var 2))) pda_nil)) pd_int)))))))) (rd__law_alphabet c)
theorem ok__law_row (T : Txt K mg c) : FnC P w K mg base 2 "_law_row" ["hand", "alphabet", "least", "more"] (sp__law_row c) :=
  FnC.mk T.d__law_row sc__law_row (by decide) (len__law_row c) (fun f cdv A outer s H E hr => (pss_oneD (pds_ret (pd_lc (own := [("k", 4)]) rfl sc__law_row.nd (pdi_rg1 T.b_range (pd_op opd_add (pd_var 2) (pd_fn (ok__law_draw T) (hr.mono (by decide)) (pda_cons (pd_var 0) (pda_cons (pd_op opd_add (pd_var 3) pd_int) pda_nil))))) (blkOk_by (N := N__law_row_) (sc := defScope s__law_row) (by decide +kernel)) (fun _ _ _ _ _ => (pdg_name (i := 4) sc__law_row.nd rfl (by first | exact Or.inl rfl | exact Or.inr rfl) (by decide))) (fun _ _ _ _ _ => pdts_nil) (fun _ _ _ _ _ => (pd_ix ixd (pd_var 1) (pd_fn (ok__law_draw T) (hr.mono (by decide)) (pda_cons (pd_var 0) (pda_cons (pd_callB cd_len T.b_len (by decide +kernel) (pda_cons (pd_var 1) pda_nil)) pda_nil))))))))) (rd__law_row c)
theorem ok__law_ends (T : Txt K mg c) : FnC P w K mg base 3 "_law_ends" ["hand", "alphabet", "most"] (sp__law_ends c) :=
  FnC.mk T.d__law_ends sc__law_ends (by decide) (len__law_ends c) (fun f cdv A outer s H E hr => (pss_consD (pds_set (i := 3) sc__law_ends.nd rfl (by first | exact Or.inl rfl | exact Or.inr rfl) (pd_lstM pda_nil))
  (pss_consD (pds_for (vs := (List.range 8)) rfl (passes_of rfl) (pdi_rg1 T.b_range (pd_fn (ok__law_draw T) (hr.mono (by decide)) (pda_cons (pd_var 0) (pda_cons (pd_op opd_add (pd_var 2) pd_int) pda_nil)))) (pdg_name (i := 4) sc__law_ends.nd rfl (by first | exact Or.inl rfl | exact Or.inr rfl) (by decide)) (pss_consD (pds_set (i := 5) sc__law_ends.nd rfl (by first | exact Or.inl rfl | exact Or.inr rfl) (pd_fn (ok__law_row T) (hr.mono (by decide)) (pda_cons (pd_var 0) (pda_cons (pd_var 1) (pda_cons pd_int (pda_cons pd_int pda_nil))))))
  (pss_consD (pds_set (i := 6) sc__law_ends.nd rfl (by first | exact Or.inl rfl | exact Or.inr rfl) (pd_fn (ok__law_draw T) (hr.mono (by decide)) (pda_cons (pd_var 0) (pda_cons pd_int pda_nil))))
  (pss_consD (pds_if (pdt_cmp opd_gt (pd_callB cd_len T.b_len (by decide +kernel) (pda_cons (pd_var 3) pda_nil)) pd_int (nomark _)) (pss_consD (pds_set (i := 7) sc__law_ends.nd rfl (by first | exact Or.inl rfl | exact Or.inr rfl) (pd_ix ixd (pd_var 3) (pd_fn (ok__law_draw T) (hr.mono (by decide)) (pda_cons (pd_var 0) (pda_cons (pd_callB cd_len T.b_len (by decide +kernel) (pda_cons (pd_var 3) pda_nil)) pda_nil)))))
  (pss_oneD (pds_if (pdt_cmp (opd_eq hr.units) (pd_var 6) pd_int (nomark _)) (pss_oneD (pds_set (i := 5) sc__law_ends.nd rfl (by first | exact Or.inl rfl | exact Or.inr rfl) (pd_op opd_add (pd_var 7) (pd_var 5)))) (pss_oneD (pds_if (pdt_cmp (opd_eq hr.units) (pd_var 6) pd_int (nomark _)) (pss_oneD (pds_set (i := 5) sc__law_ends.nd rfl (by first | exact Or.inl rfl | exact Or.inr rfl) (pd_op opd_add (pd_op opd_add (pd_slice (pd_var 5) pdo_none (pdo_some pd_int)) (pd_var 7)) (pd_slice (pd_var 5) (pdo_some pd_int) pdo_none)))) (pss_oneD (pds_if (pdt_cmp (opd_eq hr.units) (pd_var 6) pd_int (nomark _)) (pss_oneD (pds_set (i := 5) sc__law_ends.nd rfl (by first | exact Or.inl rfl | exact Or.inr rfl) (pd_slice (pd_var 7) (pdo_some (pd_fn (ok__law_draw T) (hr.mono (by decide)) (pda_cons (pd_var 0) (pda_cons (pd_callB cd_len T.b_len (by decide +kernel) (pda_cons (pd_var 7) pda_nil)) pda_nil)))) pdo_none))) (pss_oneD (pds_if (pdt_cmp (opd_eq hr.units) (pd_var 6) pd_int (nomark _)) (pss_oneD (pds_set (i := 5) sc__law_ends.nd rfl (by first | exact Or.inl rfl | exact Or.inr rfl) (pd_op opd_add (pd_slice (pd_var 7) pdo_none (pdo_some (pd_un und_neg pd_int))) (pd_slice (pd_var 5) pdo_none (pdo_some pd_int))))) pss_nilD))))))))) pss_nilD)
  (pss_oneD (pds_drop (pd_lm PySem.F.slot_list_append PySem.F.type_list_append md_append (pd_var 3) (pda_cons (pd_slice (pd_var 5) pdo_none (pdo_some pd_int)) pda_nil))))))))
  (pss_oneD (pds_ret (pd_frz (pd_var 3))))))) (rd__law_ends c)
theorem ok__law_near (T : Txt K mg c) : FnC P w K mg base 2 "_law_near" ["hand", "ends", "alphabet", "many"] (sp__law_near c) :=
  FnC.mk T.d__law_near sc__law_near (by decide) (len__law_near c) (fun f cdv A outer s H E hr => (pss_consD (pds_set (i := 4) sc__law_near.nd rfl (by first | exact Or.inl rfl | exact Or.inr rfl) (pd_lstM pda_nil))
  (pss_consD (pds_for (vs := (List.range 12)) rfl (passes_of rfl) (pdi_rg1 T.b_range (pd_var 3)) (pdg_name (i := 5) sc__law_near.nd rfl (by first | exact Or.inl rfl | exact Or.inr rfl) (by decide)) (pss_consD (pds_set (i := 6) sc__law_near.nd rfl (by first | exact Or.inl rfl | exact Or.inr rfl) (pd_fn (ok__law_held T) (hr.mono (by decide)) (pda_cons (pd_var 1) (pda_cons (pd_var 4) pda_nil))))
  (pss_consD (pds_set (i := 7) sc__law_near.nd rfl (by first | exact Or.inl rfl | exact Or.inr rfl) (pd_slice (pd_var 4) (pdo_some (pd_op opd_sub (pd_callB cd_len T.b_len (by decide +kernel) (pda_cons (pd_var 4) pda_nil)) (pd_var 6))) pdo_none))
  (pss_consD (by first | exact pds_setLc (i := 8) rfl sc__law_near.nd rfl rfl (sw_true rfl rfl rfl (by decide +kernel)) (own := [("end", 11)]) (pdi_seq (pd_var 1)) (blkOk_by (N := N__law_near_) (sc := defScope s__law_near) (by decide +kernel)) (fun _ _ _ _ _ => (pdg_name (i := 11) sc__law_near.nd rfl (by first | exact Or.inl rfl | exact Or.inr rfl) (by decide))) (fun _ _ _ _ _ => (pdts_one (PDw.pt (pdw_and (pdt_cmp opd_gt (pd_callB cd_len T.b_len (by decide +kernel) (pda_cons (pd_var 11) pda_nil)) (pd_var 6) (nomark _)) (pdw_and1 (pdt_cmp (opd_eq hr.units) (pd_slice (pd_var 11) pdo_none (pdo_some (pd_var 6))) (pd_var 7) (nomark _))))))) (fun _ _ _ _ _ => (pd_ix ixd (pd_var 11) (pd_var 6))) | exact pds_set (i := 8) sc__law_near.nd rfl (by first | exact Or.inl rfl | exact Or.inr rfl) (pd_lc (own := [("end", 11)]) rfl sc__law_near.nd (pdi_seq (pd_var 1)) (blkOk_by (N := N__law_near_) (sc := defScope s__law_near) (by decide +kernel)) (fun _ _ _ _ _ => (pdg_name (i := 11) sc__law_near.nd rfl (by first | exact Or.inl rfl | exact Or.inr rfl) (by decide))) (fun _ _ _ _ _ => (pdts_one (PDw.pt (pdw_and (pdt_cmp opd_gt (pd_callB cd_len T.b_len (by decide +kernel) (pda_cons (pd_var 11) pda_nil)) (pd_var 6) (nomark _)) (pdw_and1 (pdt_cmp (opd_eq hr.units) (pd_slice (pd_var 11) pdo_none (pdo_some (pd_var 6))) (pd_var 7) (nomark _))))))) (fun _ _ _ _ _ => (pd_ix ixd (pd_var 11) (pd_var 6)))))
  (pss_consD (pds_set (i := 9) sc__law_near.nd rfl (by first | exact Or.inl rfl | exact Or.inr rfl) (pd_ix ixd (pd_var 2) (pd_fn (ok__law_draw T) (hr.mono (by decide)) (pda_cons (pd_var 0) (pda_cons (pd_callB cd_len T.b_len (by decide +kernel) (pda_cons (pd_var 2) pda_nil)) pda_nil)))))
  (pss_consD (pds_set (i := 10) sc__law_near.nd rfl (by first | exact Or.inl rfl | exact Or.inr rfl) (pd_fn (ok__law_draw T) (hr.mono (by decide)) (pda_cons (pd_var 0) (pda_cons pd_int pda_nil))))
  (pss_consD (pds_if (pdt_cmp (opd_eq hr.units) (pd_var 10) pd_int (nomark _)) (pss_oneD (pds_set (i := 9) sc__law_near.nd rfl (by first | exact Or.inl rfl | exact Or.inr rfl) (pd_fn (ok__law_draw T) (hr.mono (by decide)) (pda_cons (pd_var 0) (pda_cons pd_int pda_nil))))) (pss_oneD (pds_if (PDw.pt (pdw_and (pdt_cmp opd_gt (pd_var 10) pd_int (nomark _)) (pdw_and1 (pdt_cmp opd_gt (pd_callB cd_len T.b_len (by decide +kernel) (pda_cons (pd_var 8) pda_nil)) pd_int (nomark _))))) (pss_oneD (pds_set (i := 9) sc__law_near.nd rfl (by first | exact Or.inl rfl | exact Or.inr rfl) (pd_ix ixd (pd_var 8) (pd_fn (ok__law_draw T) (hr.mono (by decide)) (pda_cons (pd_var 0) (pda_cons (pd_callB cd_len T.b_len (by decide +kernel) (pda_cons (pd_var 8) pda_nil)) pda_nil)))))) pss_nilD)))
  (pss_oneD (pds_drop (pd_lm PySem.F.slot_list_append PySem.F.type_list_append md_append (pd_var 4) (pda_cons (pd_var 9) pda_nil)))))))))))
  (pss_oneD (pds_ret (pd_frz (pd_var 4))))))) (rd__law_near c)
theorem ok__law_long (T : Txt K mg c) : FnC P w K mg base 3 "_law_long" ["hand", "alphabet"] (sp__law_long c) :=
  FnC.mk T.d__law_long sc__law_long (by decide) (len__law_long c) (fun f cdv A outer s H E hr => (pss_consD (pds_set (i := 2) sc__law_long.nd rfl (by first | exact Or.inl rfl | exact Or.inr rfl) (pd_lstM pda_nil))
  (pss_consD (pds_for (vs := (List.range 6)) rfl (passes_of rfl) (pdi_rg1 T.b_range (pd_fn (ok__law_draw T) (hr.mono (by decide)) (pda_cons (pd_var 0) (pda_cons pd_int pda_nil)))) (pdg_name (i := 3) sc__law_long.nd rfl (by first | exact Or.inl rfl | exact Or.inr rfl) (by decide)) (pss_consD (pds_set (i := 4) sc__law_long.nd rfl (by first | exact Or.inl rfl | exact Or.inr rfl) (pd_fn (ok__law_row T) (hr.mono (by decide)) (pda_cons (pd_var 0) (pda_cons (pd_var 1) (pda_cons pd_int (pda_cons pd_int pda_nil))))))
  (pss_consD (pds_if (PDw.pt (pdw_and (pdt_cmp opd_gt (pd_callB cd_len T.b_len (by decide +kernel) (pda_cons (pd_var 2) pda_nil)) pd_int (nomark _)) (pdw_and1 (pdt_cmp (opd_eq hr.units) (pd_fn (ok__law_draw T) (hr.mono (by decide)) (pda_cons (pd_var 0) (pda_cons pd_int pda_nil))) pd_int (nomark _))))) (pss_consD (pds_set (i := 5) sc__law_long.nd rfl (by first | exact Or.inl rfl | exact Or.inr rfl) (pd_ix ixd (pd_var 2) (pd_fn (ok__law_draw T) (hr.mono (by decide)) (pda_cons (pd_var 0) (pda_cons (pd_callB cd_len T.b_len (by decide +kernel) (pda_cons (pd_var 2) pda_nil)) pda_nil)))))
  (pss_oneD (pds_set (i := 4) sc__law_long.nd rfl (by first | exact Or.inl rfl | exact Or.inr rfl) (pd_op opd_add (pd_slice (pd_var 5) (pdo_some pd_int) pdo_none) (pd_slice (pd_var 4) pdo_none (pdo_some pd_int)))))) pss_nilD)
  (pss_oneD (pds_drop (pd_lm PySem.F.slot_list_append PySem.F.type_list_append md_append (pd_var 2) (pda_cons (pd_slice (pd_var 4) pdo_none (pdo_some pd_int)) pda_nil)))))))
  (pss_oneD (pds_ret (pd_frz (pd_var 2))))))) (rd__law_long c)
theorem ok__law_looked (T : Txt K mg c) : FnC P w K mg base 10 "_law_looked" ["stopper", "ends", "text", "state"] (sp__law_looked c) :=
  FnC.mk T.d__law_looked sc__law_looked (by decide) (len__law_looked c) (fun f cdv A outer s H E hr => (pss_consD (pds_set (i := 4) sc__law_looked.nd rfl (by first | exact Or.inl rfl | exact Or.inr rfl) (pd_ifE (pdt_val (pd_ix ixd (pd_var 3) pd_int)) (pd_tup pda_nil) (pd_callTy cd_tuple T.b_tuple (by decide +kernel) (pda_cons (pd_slice (pd_var 2) (pdo_some (pd_ix ixd (pd_var 3) pd_int)) pdo_none) pda_nil))))
  (pss_consD (pds_if (PDw.pt (pdw_or (pdt_not (pdt_val (pd_fn (ok__law_same T) (hr.mono (by decide)) (pda_cons (pd_mt0 (N := N_Stopper) T.cl_Stopper (ok_Stopper_has_stopped T) (by decide +kernel) (hr.mono (by decide)) (pd_var 0)) (pda_cons (pd_ix ixd (pd_var 3) pd_int) pda_nil))))) (pdw_or1 (pdt_not (pdt_val (pd_fn (ok__law_same T) (hr.mono (by decide)) (pda_cons (pd_mt0 (N := N_Stopper) T.cl_Stopper (ok_Stopper_letters_held T) (by decide +kernel) (hr.mono (by decide)) (pd_var 0)) (pda_cons (pd_var 4) pda_nil)))))))) (pss_oneD (pds_ret pd_bl)) pss_nilD)
  (pss_consD (pds_if (pdt_val (pd_ix ixd (pd_var 3) pd_int)) (pss_oneD (pds_ret pd_bl)) pss_nilD)
  (pss_consD (pds_set (i := 5) sc__law_looked.nd rfl (by first | exact Or.inl rfl | exact Or.inr rfl) (pd_slice (pd_var 1) pdo_none (pdo_some pd_int)))
  (pss_consD (pds_set (i := 6) sc__law_looked.nd rfl (by first | exact Or.inl rfl | exact Or.inr rfl) (pd_fn (ok__law_held T) (hr.mono (by decide)) (pda_cons (pd_var 5) (pda_cons (pd_var 2) pda_nil))))
  (pss_consD (by first | exact pds_setLc (i := 7) rfl sc__law_looked.nd rfl rfl (sw_true rfl rfl rfl (by decide +kernel)) (own := [("end", 8)]) (pdi_seq (pd_var 5)) (blkOk_by (N := N__law_looked_) (sc := defScope s__law_looked) (by decide +kernel)) (fun _ _ _ _ _ => (pdg_name (i := 8) sc__law_looked.nd rfl (by first | exact Or.inl rfl | exact Or.inr rfl) (by decide))) (fun _ _ _ _ _ => pdts_nil) (fun _ _ _ _ _ => (pd_callTy cd_list T.b_list (by decide +kernel) (pda_cons (pd_var 8) pda_nil))) | exact pds_set (i := 7) sc__law_looked.nd rfl (by first | exact Or.inl rfl | exact Or.inr rfl) (pd_lc (own := [("end", 8)]) rfl sc__law_looked.nd (pdi_seq (pd_var 5)) (blkOk_by (N := N__law_looked_) (sc := defScope s__law_looked) (by decide +kernel)) (fun _ _ _ _ _ => (pdg_name (i := 8) sc__law_looked.nd rfl (by first | exact Or.inl rfl | exact Or.inr rfl) (by decide))) (fun _ _ _ _ _ => pdts_nil) (fun _ _ _ _ _ => (pd_callTy cd_list T.b_list (by decide +kernel) (pda_cons (pd_var 8) pda_nil)))))
  (pss_consD (pds_if (PDw.pt (pdw_or (pdt_not (pdt_val (pd_fn (ok__law_same T) (hr.mono (by decide)) (pda_cons (pd_fn (ok_held_back T) (hr.mono (by decide)) (pda_cons (pd_var 7) (pda_cons (pd_callTy cd_tuple T.b_tuple (by decide +kernel) (pda_cons (pd_var 2) pda_nil)) pda_nil))) (pda_cons (pd_var 6) pda_nil))))) (pdw_or1 (pdt_cmp (opd_ne hr.units) (pd_var 7) (pd_var 5) (nomark _))))) (pss_oneD (pds_ret pd_bl)) pss_nilD)
  (pss_oneD (pds_ret (pd_fn (ok__law_same T) (hr.mono (by decide)) (pda_cons (pd_fn (ok_held_back T) (hr.mono (by decide)) (pda_cons (pd_callTy cd_tuple T.b_tuple (by decide +kernel) (pda_cons (pd_lc (own := [("end", 8)]) rfl sc__law_looked.nd (pdi_seq (pd_var 5)) (blkOk_by (N := N__law_looked_) (sc := defScope s__law_looked) (by decide +kernel)) (fun _ _ _ _ _ => (pdg_name (i := 8) sc__law_looked.nd rfl (by first | exact Or.inl rfl | exact Or.inr rfl) (by decide))) (fun _ _ _ _ _ => pdts_nil) (fun _ _ _ _ _ => (pd_callTy cd_tuple T.b_tuple (by decide +kernel) (pda_cons (pd_var 8) pda_nil)))) pda_nil)) (pda_cons (pd_callTy cd_list T.b_list (by decide +kernel) (pda_cons (pd_var 2) pda_nil)) pda_nil))) (pda_cons (pd_var 6) pda_nil))))))))))))) (rd__law_looked c)
theorem ok__law_read_on (T : Txt K mg c) : FnC P w K mg base 10 "_law_read_on" ["stopper", "ends", "text", "state", "letter"] (sp__law_read_on c) :=
  FnC.mk T.d__law_read_on sc__law_read_on (by decide) (len__law_read_on c) (fun f cdv A outer s H E hr => (pss_consD (pds_drop (pd_lm PySem.F.slot_list_append PySem.F.type_list_append md_append (pd_var 2) (pda_cons (pd_var 4) pda_nil)))
  (pss_consD (pds_set (i := 5) sc__law_read_on.nd rfl (by first | exact Or.inl rfl | exact Or.inr rfl) (pd_tup pda_nil))
  (pss_consD (pds_if (pdt_not (pdt_val (pd_ix ixd (pd_var 3) pd_int))) (pss_consD (pds_set (i := 6) sc__law_read_on.nd rfl (by first | exact Or.inl rfl | exact Or.inr rfl) (pd_fn (ok__law_stopped T) (hr.mono (by decide)) (pda_cons (pd_var 1) (pda_cons (pd_var 2) pda_nil))))
  (pss_consD (pds_setI (pd_var 3) pd_int (pd_cmp opd_gt (pd_var 6) pd_int (nomark _)))
  (pss_consD (pds_set (i := 7) sc__law_read_on.nd rfl (by first | exact Or.inl rfl | exact Or.inr rfl) (pd_op opd_sub (pd_callB cd_len T.b_len (by decide +kernel) (pda_cons (pd_var 2) pda_nil)) (pd_ifE (pdt_val (pd_ix ixd (pd_var 3) pd_int)) (pd_var 6) (pd_fn (ok__law_held T) (hr.mono (by decide)) (pda_cons (pd_var 1) (pda_cons (pd_var 2) pda_nil))))))
  (pss_consD (pds_set (i := 5) sc__law_read_on.nd rfl (by first | exact Or.inl rfl | exact Or.inr rfl) (pd_callTy cd_tuple T.b_tuple (by decide +kernel) (pda_cons (pd_slice (pd_var 2) (pdo_some (pd_ix ixd (pd_var 3) pd_int)) (pdo_some (pd_var 7))) pda_nil)))
  (pss_oneD (pds_setI (pd_var 3) pd_int (pd_var 7))))))) pss_nilD)
  (pss_oneD (pds_ret (pd_fn (ok__law_same T) (hr.mono (by decide)) (pda_cons (pd_mt (N := N_Stopper) T.cl_Stopper (ok_Stopper_feed T) (by decide +kernel) (hr.mono (by decide)) (pd_var 0) (pda_cons (pd_var 4) pda_nil)) (pda_cons (pd_var 5) pda_nil))))))))) (rd__law_read_on c)
theorem ok__law_closing (T : Txt K mg c) : FnC P w K mg base 10 "_law_closing" [] (sp__law_closing c) :=
  FnC.mk T.d__law_closing sc__law_closing (by decide) (len__law_closing c) (fun f cdv A outer s H E hr => (pss_consD (pds_set (i := 0) sc__law_closing.nd rfl (by first | exact Or.inl rfl | exact Or.inr rfl) (pd_mk (N := N_Stopper) (ok_Stopper_init T) T.mk_Stopper (by decide +kernel) (by decide) (hr.mono (by decide)) (pda_cons (pd_lst (pda_cons (pd_lst (pda_cons pd_int (pda_cons pd_int (pda_cons pd_int (pda_cons pd_int pda_nil))))) (pda_cons (pd_lst (pda_cons pd_int (pda_cons pd_int (pda_cons pd_int pda_nil)))) (pda_cons (pd_tup (pda_cons pd_int (pda_cons pd_int pda_nil))) pda_nil)))) pda_nil)))
  (pss_consD (pds_set (i := 1) sc__law_closing.nd rfl (by first | exact Or.inl rfl | exact Or.inr rfl) (pd_lstM (pda_cons (pd_mt0 (N := N_Stopper) T.cl_Stopper (ok_Stopper_letters_held T) (by decide +kernel) (hr.mono (by decide)) (pd_var 0)) (pda_cons (pd_mt0 (N := N_Stopper) T.cl_Stopper (ok_Stopper_has_stopped T) (by decide +kernel) (hr.mono (by decide)) (pd_var 0)) pda_nil))))
  (pss_consD (pds_for (vs := (List.range 4)) rfl (passes_of rfl) (pdi_seq (pd_tup (pda_cons pd_int (pda_cons pd_int (pda_cons pd_int (pda_cons pd_int (pda_cons pd_int (pda_cons pd_int (pda_cons pd_int (pda_cons pd_int pda_nil)))))))))) (pdg_name (i := 2) sc__law_closing.nd rfl (by first | exact Or.inl rfl | exact Or.inr rfl) (by decide)) (pss_oneD (pds_drop (pd_lm PySem.F.slot_list_append PySem.F.type_list_append md_append (pd_var 1) (pda_cons (pd_mt (N := N_Stopper) T.cl_Stopper (ok_Stopper_feed T) (by decide +kernel) (hr.mono (by decide)) (pd_var 0) (pda_cons (pd_var 2) pda_nil)) pda_nil)))))
  (pss_consD (pds_drop (pd_lm PySem.F.slot_list_append PySem.F.type_list_append md_append (pd_var 1) (pda_cons (pd_mt0 (N := N_Stopper) T.cl_Stopper (ok_Stopper_letters_held T) (by decide +kernel) (hr.mono (by decide)) (pd_var 0)) pda_nil)))
  (pss_consD (pds_for (vs := (List.range 4)) rfl (passes_of rfl) (pdi_seq (pd_tup (pda_cons pd_int (pda_cons pd_int (pda_cons pd_int pda_nil))))) (pdg_name (i := 2) sc__law_closing.nd rfl (by first | exact Or.inl rfl | exact Or.inr rfl) (by decide)) (pss_oneD (pds_drop (pd_lm PySem.F.slot_list_append PySem.F.type_list_append md_append (pd_var 1) (pda_cons (pd_mt (N := N_Stopper) T.cl_Stopper (ok_Stopper_feed T) (by decide +kernel) (hr.mono (by decide)) (pd_var 0) (pda_cons (pd_var 2) pda_nil)) pda_nil)))))
  (pss_consD (pds_drop (pd_lm PySem.F.slot_list_extend PySem.F.type_list_extend md_extend (pd_var 1) (pda_cons (pd_lst (pda_cons (pd_mt0 (N := N_Stopper) T.cl_Stopper (ok_Stopper_has_stopped T) (by decide +kernel) (hr.mono (by decide)) (pd_var 0)) (pda_cons (pd_mt0 (N := N_Stopper) T.cl_Stopper (ok_Stopper_letters_held T) (by decide +kernel) (hr.mono (by decide)) (pd_var 0)) (pda_cons (pd_fn (ok_held_back T) (hr.mono (by decide)) (pda_cons (pd_tup (pda_cons (pd_tup (pda_cons pd_int (pda_cons pd_int (pda_cons pd_int (pda_cons pd_int pda_nil))))) (pda_cons (pd_tup (pda_cons pd_int (pda_cons pd_int (pda_cons pd_int pda_nil)))) pda_nil))) (pda_cons (pd_tup (pda_cons pd_int (pda_cons pd_int (pda_cons pd_int pda_nil)))) pda_nil))) pda_nil)))) pda_nil)))
  (pss_consD (pds_set (i := 3) sc__law_closing.nd rfl (by first | exact Or.inl rfl | exact Or.inr rfl) (pd_lstM (pda_cons (pd_tup pda_nil) (pda_cons pd_bl (pda_cons (pd_tup pda_nil) (pda_cons (pd_tup pda_nil) (pda_cons (pd_tup (pda_cons pd_int pda_nil)) (pda_cons (pd_tup pda_nil) (pda_cons (pd_tup (pda_cons pd_int (pda_cons pd_int (pda_cons pd_int (pda_cons pd_int pda_nil))))) (pda_cons (pd_tup pda_nil) (pda_cons (pd_tup pda_nil) (pda_cons (pd_tup pda_nil) (pda_cons (pd_tup (pda_cons pd_int (pda_cons pd_int (pda_cons pd_int pda_nil)))) pda_nil)))))))))))))
  (pss_consD (pds_drop (pd_lm PySem.F.slot_list_extend PySem.F.type_list_extend md_extend (pd_var 3) (pda_cons (pd_lst (pda_cons (pd_tup (pda_cons pd_int pda_nil)) (pda_cons (pd_tup pda_nil) (pda_cons (pd_tup pda_nil) (pda_cons pd_bl (pda_cons (pd_tup pda_nil) (pda_cons pd_int pda_nil))))))) pda_nil)))
  (pss_oneD (pds_ret (pd_fn (ok__law_same T) (hr.mono (by decide)) (pda_cons (pd_callTy cd_tuple T.b_tuple (by decide +kernel) (pda_cons (pd_var 1) pda_nil)) (pda_cons (pd_callTy cd_tuple T.b_tuple (by decide +kernel) (pda_cons (pd_var 3) pda_nil)) pda_nil)))))))))))))) (rd__law_closing c)
theorem okF_law (T : Txt K mg c) {f : Addr} {fd : FuncData} (F : Fun K "law" "law" s_law f fd) : FnD P w K mg base 11 f fd ["script"] (sp_law c) :=
  fnd_mk F sc_law (by decide) (len_law c) (fun f cdv A outer s H E hr => (pss_consD (pds_set (i := 1) sc_law.nd rfl (by first | exact Or.inl rfl | exact Or.inr rfl) (pd_fn (ok__law_hand T) (hr.mono (by decide)) (pda_cons (pd_var 0) pda_nil)))
  (pss_consD (pds_set (i := 2) sc_law.nd rfl (by first | exact Or.inl rfl | exact Or.inr rfl) (pd_lstM pda_nil))
  (pss_consD (pds_set (i := 3) sc_law.nd rfl (by first | exact Or.inl rfl | exact Or.inr rfl) (pd_fn (ok__law_alphabet T) (hr.mono (by decide)) (pda_cons (pd_var 1) pda_nil)))
  (pss_consD (pds_drop (pd_lm PySem.F.slot_list_append PySem.F.type_list_append md_append (pd_var 2) (pda_cons (pd_fn (ok__law_ends T) (hr.mono (by decide)) (pda_cons (pd_var 1) (pda_cons (pd_var 3) (pda_cons pd_int pda_nil)))) pda_nil)))
  (pss_consD (pds_set (i := 4) sc_law.nd rfl (by first | exact Or.inl rfl | exact Or.inr rfl) (pd_fn (ok__law_alphabet T) (hr.mono (by decide)) (pda_cons (pd_var 1) pda_nil)))
  (pss_consD (pds_drop (pd_lm PySem.F.slot_list_append PySem.F.type_list_append md_append (pd_var 2) (pda_cons (pd_fn (ok__law_long T) (hr.mono (by decide)) (pda_cons (pd_var 1) (pda_cons (pd_var 4) pda_nil))) pda_nil)))
  (pss_consD (pds_set (i := 5) sc_law.nd rfl (by first | exact Or.inl rfl | exact Or.inr rfl) (pd_lstM (pda_cons (pd_fn (ok__law_near T) (hr.mono (by decide)) (pda_cons (pd_var 1) (pda_cons (pd_ix ixd (pd_var 2) pd_int) (pda_cons (pd_var 3) (pda_cons (pd_op opd_add pd_int (pd_fn (ok__law_draw T) (hr.mono (by decide)) (pda_cons (pd_var 1) (pda_cons pd_int pda_nil)))) pda_nil))))) pda_nil)))
  (pss_consD (pds_drop (pd_lm PySem.F.slot_list_append PySem.F.type_list_append md_append (pd_var 5) (pda_cons (pd_fn (ok__law_near T) (hr.mono (by decide)) (pda_cons (pd_var 1) (pda_cons (pd_ix ixd (pd_var 2) pd_int) (pda_cons (pd_var 4) (pda_cons (pd_op opd_add pd_int (pd_fn (ok__law_draw T) (hr.mono (by decide)) (pda_cons (pd_var 1) (pda_cons pd_int pda_nil)))) pda_nil))))) pda_nil)))
  (pss_consD (by first | exact pds_setLc (i := 6) rfl sc_law.nd rfl rfl (sw_true rfl rfl rfl (by decide +kernel)) (own := [("ends", 8)]) (pdi_seq (pd_var 2)) (blkOk_by (N := N_law_) (sc := defScope s_law) (by decide +kernel)) (fun _ _ _ _ _ => (pdg_name (i := 8) sc_law.nd rfl (by first | exact Or.inl rfl | exact Or.inr rfl) (by decide))) (fun _ _ _ _ _ => pdts_nil) (fun _ _ _ _ _ => (pd_lcM (own := [("end", 14)]) rfl sc_law.nd (pdi_seq (pd_var 8)) (blkOk_by (N := N_law_) (sc := relS _ (defScope s_law)) (by decide +kernel)) (fun _ _ _ _ _ => (pdg_name (i := 14) sc_law.nd rfl (by first | exact Or.inl rfl | exact Or.inr rfl) (by decide))) (fun _ _ _ _ _ => pdts_nil) (fun _ _ _ _ _ => (pd_callTy cd_listM T.b_list (by decide +kernel) (pda_cons (pd_var 14) pda_nil))))) | exact pds_set (i := 6) sc_law.nd rfl (by first | exact Or.inl rfl | exact Or.inr rfl) (pd_lc (own := [("ends", 8)]) rfl sc_law.nd (pdi_seq (pd_var 2)) (blkOk_by (N := N_law_) (sc := defScope s_law) (by decide +kernel)) (fun _ _ _ _ _ => (pdg_name (i := 8) sc_law.nd rfl (by first | exact Or.inl rfl | exact Or.inr rfl) (by decide))) (fun _ _ _ _ _ => pdts_nil) (fun _ _ _ _ _ => (pd_lcM (own := [("end", 14)]) rfl sc_law.nd (pdi_seq (pd_var 8)) (blkOk_by (N := N_law_) (sc := relS _ (defScope s_law)) (by decide +kernel)) (fun _ _ _ _ _ => (pdg_name (i := 14) sc_law.nd rfl (by first | exact Or.inl rfl | exact Or.inr rfl) (by decide))) (fun _ _ _ _ _ => pdts_nil) (fun _ _ _ _ _ => (pd_callTy cd_listM T.b_list (by decide +kernel) (pda_cons (pd_var 14) pda_nil)))))))
  (pss_consD (by first | exact pds_setLc (i := 7) rfl sc_law.nd rfl rfl (sw_true rfl rfl rfl (by decide +kernel)) (own := [("ends", 8)]) (pdi_seq (pd_var 6)) (blkOk_by (N := N_law_) (sc := defScope s_law) (by decide +kernel)) (fun _ _ _ _ _ => (pdg_name (i := 8) sc_law.nd rfl (by first | exact Or.inl rfl | exact Or.inr rfl) (by decide))) (fun _ _ _ _ _ => pdts_nil) (fun _ _ _ _ _ => (pd_mk (N := N_Stopper) (ok_Stopper_init T) T.mk_Stopper (by decide +kernel) (by decide) (hr.mono (by decide)) (pda_cons (pd_var 8) pda_nil))) | exact pds_set (i := 7) sc_law.nd rfl (by first | exact Or.inl rfl | exact Or.inr rfl) (pd_lc (own := [("ends", 8)]) rfl sc_law.nd (pdi_seq (pd_var 6)) (blkOk_by (N := N_law_) (sc := defScope s_law) (by decide +kernel)) (fun _ _ _ _ _ => (pdg_name (i := 8) sc_law.nd rfl (by first | exact Or.inl rfl | exact Or.inr rfl) (by decide))) (fun _ _ _ _ _ => pdts_nil) (fun _ _ _ _ _ => (pd_mk (N := N_Stopper) (ok_Stopper_init T) T.mk_Stopper (by decide +kernel) (by decide) (hr.mono (by decide)) (pda_cons (pd_var 8) pda_nil)))))
  (pss_consD (pds_for (vs := (List.range 15)) rfl (passes_of rfl) (pdi_seq (pd_var 6)) (pdg_name (i := 8) sc_law.nd rfl (by first | exact Or.inl rfl | exact Or.inr rfl) (by decide)) (pss_consD (pds_drop (pd_lm PySem.F.slot_list_append PySem.F.type_list_append md_append (pd_var 8) (pda_cons (pd_lstM (pda_cons pd_int pda_nil)) pda_nil)))
  (pss_oneD (pds_drop (pd_lm PySem.F.slot_list_append PySem.F.type_list_append md_append (pd_ix ixd (pd_var 8) pd_int) (pda_cons pd_int pda_nil))))))
  (pss_consD (pds_set (i := 9) sc_law.nd rfl (by first | exact Or.inl rfl | exact Or.inr rfl) (pd_lst (pda_cons (pd_lstM pda_nil) (pda_cons (pd_lstM pda_nil) pda_nil))))
  (pss_consD (pds_set (i := 10) sc_law.nd rfl (by first | exact Or.inl rfl | exact Or.inr rfl) (pd_lst (pda_cons (pd_lstM (pda_cons pd_int (pda_cons pd_bl pda_nil))) (pda_cons (pd_lstM (pda_cons pd_int (pda_cons pd_bl pda_nil))) pda_nil))))
  (pss_consD (pds_if (pdt_not (pdt_val (pd_fn (ok__law_looked T) (hr.mono (by decide)) (pda_cons (pd_ix ixd (pd_var 7) pd_int) (pda_cons (pd_ix ixd (pd_var 2) pd_int) (pda_cons (pd_ix ixd (pd_var 9) pd_int) (pda_cons (pd_ix ixd (pd_var 10) pd_int) pda_nil))))))) (pss_oneD (pds_ret pd_bl)) pss_nilD)
  (pss_consD (pds_for (vs := (List.range 15)) rfl (passes_of rfl) (pdi_rg1 T.b_range pd_int) (pdg_name (i := 11) sc_law.nd rfl (by first | exact Or.inl rfl | exact Or.inr rfl) (by decide)) (pss_consD (pds_set (i := 12) sc_law.nd rfl (by first | exact Or.inl rfl | exact Or.inr rfl) (pd_fn (ok__law_draw T) (hr.mono (by decide)) (pda_cons (pd_var 1) (pda_cons pd_int pda_nil))))
  (pss_consD (pds_if (pdt_cmp (opd_eq hr.units) (pd_callB cd_len T.b_len (by decide +kernel) (pda_cons (pd_ix ixd (pd_var 9) (pd_var 12)) pda_nil)) (pd_callB cd_len T.b_len (by decide +kernel) (pda_cons (pd_ix ixd (pd_var 5) (pd_var 12)) pda_nil)) (nomark _)) (pss_oneD (pds_set (i := 12) sc_law.nd rfl (by first | exact Or.inl rfl | exact Or.inr rfl) (pd_op opd_sub pd_int (pd_var 12)))) pss_nilD)
  (pss_consD (pds_if (pdt_cmp (opd_eq hr.units) (pd_callB cd_len T.b_len (by decide +kernel) (pda_cons (pd_ix ixd (pd_var 9) (pd_var 12)) pda_nil)) (pd_callB cd_len T.b_len (by decide +kernel) (pda_cons (pd_ix ixd (pd_var 5) (pd_var 12)) pda_nil)) (nomark _)) (pss_oneD pds_break) pss_nilD)
  (pss_consD (pds_set (i := 13) sc_law.nd rfl (by first | exact Or.inl rfl | exact Or.inr rfl) (pd_ix ixd (pd_ix ixd (pd_var 5) (pd_var 12)) (pd_callB cd_len T.b_len (by decide +kernel) (pda_cons (pd_ix ixd (pd_var 9) (pd_var 12)) pda_nil))))
  (pss_consD (pds_if (pdt_not (pdt_val (pd_fn (ok__law_read_on T) (hr.mono (by decide)) (pda_cons (pd_ix ixd (pd_var 7) (pd_var 12)) (pda_cons (pd_ix ixd (pd_var 2) (pd_var 12)) (pda_cons (pd_ix ixd (pd_var 9) (pd_var 12)) (pda_cons (pd_ix ixd (pd_var 10) (pd_var 12)) (pda_cons (pd_var 13) pda_nil)))))))) (pss_oneD (pds_ret pd_bl)) pss_nilD)
  (pss_consD (pds_set (i := 12) sc_law.nd rfl (by first | exact Or.inl rfl | exact Or.inr rfl) (pd_fn (ok__law_draw T) (hr.mono (by decide)) (pda_cons (pd_var 1) (pda_cons pd_int pda_nil))))
  (pss_oneD (pds_if (PDw.pt (pdw_and (pdt_cmp (opd_eq hr.units) (pd_fn (ok__law_draw T) (hr.mono (by decide)) (pda_cons (pd_var 1) (pda_cons pd_int pda_nil))) pd_int (nomark _)) (pdw_and1 (pdt_not (pdt_val (pd_fn (ok__law_looked T) (hr.mono (by decide)) (pda_cons (pd_ix ixd (pd_var 7) (pd_var 12)) (pda_cons (pd_ix ixd (pd_var 2) (pd_var 12)) (pda_cons (pd_ix ixd (pd_var 9) (pd_var 12)) (pda_cons (pd_ix ixd (pd_var 10) (pd_var 12)) pda_nil)))))))))) (pss_oneD (pds_ret pd_bl)) pss_nilD)))))))))
  (pss_consD (pds_for (vs := (List.range 15)) rfl (passes_of rfl) (pdi_rg1 T.b_range pd_int) (pdg_name (i := 12) sc_law.nd rfl (by first | exact Or.inl rfl | exact Or.inr rfl) (by decide)) (pss_oneD (pds_if (PDw.pt (pdw_or (pdt_cmp (opd_ne hr.units) (pd_ix ixd (pd_var 9) (pd_var 12)) (pd_ix ixd (pd_var 5) (pd_var 12)) (nomark _)) (pdw_or1 (pdt_not (pdt_val (pd_fn (ok__law_looked T) (hr.mono (by decide)) (pda_cons (pd_ix ixd (pd_var 7) (pd_var 12)) (pda_cons (pd_ix ixd (pd_var 2) (pd_var 12)) (pda_cons (pd_ix ixd (pd_var 9) (pd_var 12)) (pda_cons (pd_ix ixd (pd_var 10) (pd_var 12)) pda_nil)))))))))) (pss_oneD (pds_ret pd_bl)) pss_nilD)))
  (pss_oneD (pds_ret (pd_fn0 (ok__law_closing T) (hr.mono (by decide)))))))))))))))))))))) (rd_law c)
end
end K90
set_option Elab.async false
set_option linter.all false
set_option maxRecDepth 100000
set_option maxHeartbeats 4000000
namespace K90
open PySem PySem.Spec PyProof.Rows L2 DL
abbrev spEnd : Ctr := DL.spScript
theorem spEnd_at {K : PySem.W.Frag} {H : Hp} {a : Addr} {ns : List Int} {E : XK} (hl : ns.length ≤ 63) (hS : SqL K H a (ns.map V.int)) : lSp K spEnd [.ref a] H (fun v _ => v = .bl true) E := spScript_at hl hS
theorem all_mk {l : PySem.W.OpenLaw} {w : World} {K : PySem.W.Frag} {h : Heap} {mg : Str → Option Value} {fa : Addr} (X : K.In h) (G : h.Ns mainGlobals mg) (hfa : mg "law" = some (.ref fa))
    {C0 : Addr}
    {f1 : Addr} {oc1 kV1 dc1 pm1 cd1 ct1 : Value} {od1 an1 : Option Addr} {sl1 : Array (Option Value)}
    {f2 : Addr} {oc2 kV2 dc2 pm2 cd2 ct2 : Value} {od2 an2 : Option Addr} {sl2 : Array (Option Value)}
    {f3 : Addr} {oc3 kV3 dc3 pm3 cd3 ct3 : Value} {od3 an3 : Option Addr} {sl3 : Array (Option Value)}
    {f4 : Addr} {oc4 kV4 dc4 pm4 cd4 ct4 : Value} {od4 an4 : Option Addr} {sl4 : Array (Option Value)}
    {f5 : Addr} {oc5 kV5 dc5 pm5 cd5 ct5 : Value} {od5 an5 : Option Addr} {sl5 : Array (Option Value)}
    {f6 : Addr} {oc6 kV6 dc6 pm6 cd6 ct6 : Value} {od6 an6 : Option Addr} {sl6 : Array (Option Value)}
    {f7 : Addr} {oc7 kV7 dc7 pm7 cd7 ct7 : Value} {od7 an7 : Option Addr} {sl7 : Array (Option Value)}
    {f8 : Addr} {oc8 kV8 dc8 pm8 cd8 ct8 : Value} {od8 an8 : Option Addr} {sl8 : Array (Option Value)}
    {f9 : Addr} {oc9 kV9 dc9 pm9 cd9 ct9 : Value} {od9 an9 : Option Addr} {sl9 : Array (Option Value)}
    {f10 : Addr} {oc10 kV10 dc10 pm10 cd10 ct10 : Value} {od10 an10 : Option Addr} {sl10 : Array (Option Value)}
    {f11 : Addr} {oc11 kV11 dc11 pm11 cd11 ct11 : Value} {od11 an11 : Option Addr} {sl11 : Array (Option Value)}
    {f12 : Addr} {oc12 kV12 dc12 pm12 cd12 ct12 : Value} {od12 an12 : Option Addr} {sl12 : Array (Option Value)}
    {f13 : Addr} {oc13 kV13 dc13 pm13 cd13 ct13 : Value} {od13 an13 : Option Addr} {sl13 : Array (Option Value)}
    {f14 : Addr} {oc14 kV14 dc14 pm14 cd14 ct14 : Value} {od14 an14 : Option Addr} {sl14 : Array (Option Value)}
    {f15 : Addr} {oc15 kV15 dc15 pm15 cd15 ct15 : Value} {od15 an15 : Option Addr} {sl15 : Array (Option Value)}
    {f16 : Addr} {oc16 kV16 dc16 pm16 cd16 ct16 : Value} {od16 an16 : Option Addr} {sl16 : Array (Option Value)}
    {f17 : Addr} {oc17 kV17 dc17 pm17 cd17 ct17 : Value} {od17 an17 : Option Addr} {sl17 : Array (Option Value)}
    {f18 : Addr} {oc18 kV18 dc18 pm18 cd18 ct18 : Value} {od18 an18 : Option Addr} {sl18 : Array (Option Value)}
    {f19 : Addr} {oc19 kV19 dc19 pm19 cd19 ct19 : Value} {od19 an19 : Option Addr} {sl19 : Array (Option Value)}
    {f20 : Addr} {oc20 kV20 dc20 pm20 cd20 ct20 : Value} {od20 an20 : Option Addr} {sl20 : Array (Option Value)}
    (aC0 : PySem.W.nsIn K mainGlobals "Stopper" = some (some (.ref C0)))
    (a1 : PySem.W.nsIn K mainGlobals "stop_length" = some (some (.ref f1)))
    (l1 : K.lookup f1 = some ⟨oc1, od1, .func (PySem.W.fnOf "stop_length" "stop_length" (defArgs s_stop_length) (defBody s_stop_length) (defScope s_stop_length) .none kV1 dc1 pm1 an1 cd1 ct1), sl1⟩)
    (c1 : PySem.W.codeIn K cd1 "stop_length" = true)
    (k1 : PySem.W.keepIn K (.ref f1) = true)
    (a2 : PySem.W.nsIn K mainGlobals "held_back" = some (some (.ref f2)))
    (l2 : K.lookup f2 = some ⟨oc2, od2, .func (PySem.W.fnOf "held_back" "held_back" (defArgs s_held_back) (defBody s_held_back) (defScope s_held_back) .none kV2 dc2 pm2 an2 cd2 ct2), sl2⟩)
    (c2 : PySem.W.codeIn K cd2 "held_back" = true)
    (k2 : PySem.W.keepIn K (.ref f2) = true)
    (a3 : PySem.W.findIn K (.ref C0) "__init__" = some (some (.ref f3)))
    (i3 : PySem.W.isFn K (.ref f3) = true)
    (l3 : K.lookup f3 = some ⟨oc3, od3, .func (PySem.W.fnOf "__init__" "Stopper.__init__" (defArgs s_Stopper_init) (defBody s_Stopper_init) (defScope s_Stopper_init) .none kV3 dc3 pm3 an3 cd3 ct3), sl3⟩)
    (c3 : PySem.W.codeIn K cd3 "Stopper.__init__" = true)
    (k3 : PySem.W.keepIn K (.ref f3) = true)
    (a4 : PySem.W.findIn K (.ref C0) "has_stopped" = some (some (.ref f4)))
    (i4 : PySem.W.isFn K (.ref f4) = true)
    (l4 : K.lookup f4 = some ⟨oc4, od4, .func (PySem.W.fnOf "has_stopped" "Stopper.has_stopped" (defArgs s_Stopper_has_stopped) (defBody s_Stopper_has_stopped) (defScope s_Stopper_has_stopped) .none kV4 dc4 pm4 an4 cd4 ct4), sl4⟩)
    (c4 : PySem.W.codeIn K cd4 "Stopper.has_stopped" = true)
    (k4 : PySem.W.keepIn K (.ref f4) = true)
    (a5 : PySem.W.findIn K (.ref C0) "letters_held" = some (some (.ref f5)))
    (i5 : PySem.W.isFn K (.ref f5) = true)
    (l5 : K.lookup f5 = some ⟨oc5, od5, .func (PySem.W.fnOf "letters_held" "Stopper.letters_held" (defArgs s_Stopper_letters_held) (defBody s_Stopper_letters_held) (defScope s_Stopper_letters_held) .none kV5 dc5 pm5 an5 cd5 ct5), sl5⟩)
    (c5 : PySem.W.codeIn K cd5 "Stopper.letters_held" = true)
    (k5 : PySem.W.keepIn K (.ref f5) = true)
    (a6 : PySem.W.findIn K (.ref C0) "feed" = some (some (.ref f6)))
    (i6 : PySem.W.isFn K (.ref f6) = true)
    (l6 : K.lookup f6 = some ⟨oc6, od6, .func (PySem.W.fnOf "feed" "Stopper.feed" (defArgs s_Stopper_feed) (defBody s_Stopper_feed) (defScope s_Stopper_feed) .none kV6 dc6 pm6 an6 cd6 ct6), sl6⟩)
    (c6 : PySem.W.codeIn K cd6 "Stopper.feed" = true)
    (k6 : PySem.W.keepIn K (.ref f6) = true)
    (a7 : PySem.W.nsIn K mainGlobals "_law_hand" = some (some (.ref f7)))
    (l7 : K.lookup f7 = some ⟨oc7, od7, .func (PySem.W.fnOf "_law_hand" "_law_hand" (defArgs s__law_hand) (defBody s__law_hand) (defScope s__law_hand) .none kV7 dc7 pm7 an7 cd7 ct7), sl7⟩)
    (c7 : PySem.W.codeIn K cd7 "_law_hand" = true)
    (k7 : PySem.W.keepIn K (.ref f7) = true)
    (a8 : PySem.W.nsIn K mainGlobals "_law_draw" = some (some (.ref f8)))
    (l8 : K.lookup f8 = some ⟨oc8, od8, .func (PySem.W.fnOf "_law_draw" "_law_draw" (defArgs s__law_draw) (defBody s__law_draw) (defScope s__law_draw) .none kV8 dc8 pm8 an8 cd8 ct8), sl8⟩)
    (c8 : PySem.W.codeIn K cd8 "_law_draw" = true)
    (k8 : PySem.W.keepIn K (.ref f8) = true)
    (a9 : PySem.W.nsIn K mainGlobals "_law_same" = some (some (.ref f9)))
    (l9 : K.lookup f9 = some ⟨oc9, od9, .func (PySem.W.fnOf "_law_same" "_law_same" (defArgs s__law_same) (defBody s__law_same) (defScope s__law_same) .none kV9 dc9 pm9 an9 cd9 ct9), sl9⟩)
    (c9 : PySem.W.codeIn K cd9 "_law_same" = true)
    (k9 : PySem.W.keepIn K (.ref f9) = true)
    (a10 : PySem.W.nsIn K mainGlobals "_law_stopped" = some (some (.ref f10)))
    (l10 : K.lookup f10 = some ⟨oc10, od10, .func (PySem.W.fnOf "_law_stopped" "_law_stopped" (defArgs s__law_stopped) (defBody s__law_stopped) (defScope s__law_stopped) .none kV10 dc10 pm10 an10 cd10 ct10), sl10⟩)
    (c10 : PySem.W.codeIn K cd10 "_law_stopped" = true)
    (k10 : PySem.W.keepIn K (.ref f10) = true)
    (a11 : PySem.W.nsIn K mainGlobals "_law_held" = some (some (.ref f11)))
    (l11 : K.lookup f11 = some ⟨oc11, od11, .func (PySem.W.fnOf "_law_held" "_law_held" (defArgs s__law_held) (defBody s__law_held) (defScope s__law_held) .none kV11 dc11 pm11 an11 cd11 ct11), sl11⟩)
    (c11 : PySem.W.codeIn K cd11 "_law_held" = true)
    (k11 : PySem.W.keepIn K (.ref f11) = true)
    (a12 : PySem.W.nsIn K mainGlobals "_law_alphabet" = some (some (.ref f12)))
    (l12 : K.lookup f12 = some ⟨oc12, od12, .func (PySem.W.fnOf "_law_alphabet" "_law_alphabet" (defArgs s__law_alphabet) (defBody s__law_alphabet) (defScope s__law_alphabet) .none kV12 dc12 pm12 an12 cd12 ct12), sl12⟩)
    (c12 : PySem.W.codeIn K cd12 "_law_alphabet" = true)
    (k12 : PySem.W.keepIn K (.ref f12) = true)
    (a13 : PySem.W.nsIn K mainGlobals "_law_row" = some (some (.ref f13)))
    (l13 : K.lookup f13 = some ⟨oc13, od13, .func (PySem.W.fnOf "_law_row" "_law_row" (defArgs s__law_row) (defBody s__law_row) (defScope s__law_row) .none kV13 dc13 pm13 an13 cd13 ct13), sl13⟩)
    (c13 : PySem.W.codeIn K cd13 "_law_row" = true)
    (k13 : PySem.W.keepIn K (.ref f13) = true)
    (a14 : PySem.W.nsIn K mainGlobals "_law_ends" = some (some (.ref f14)))
    (l14 : K.lookup f14 = some ⟨oc14, od14, .func (PySem.W.fnOf "_law_ends" "_law_ends" (defArgs s__law_ends) (defBody s__law_ends) (defScope s__law_ends) .none kV14 dc14 pm14 an14 cd14 ct14), sl14⟩)
    (c14 : PySem.W.codeIn K cd14 "_law_ends" = true)
    (k14 : PySem.W.keepIn K (.ref f14) = true)
    (a15 : PySem.W.nsIn K mainGlobals "_law_near" = some (some (.ref f15)))
    (l15 : K.lookup f15 = some ⟨oc15, od15, .func (PySem.W.fnOf "_law_near" "_law_near" (defArgs s__law_near) (defBody s__law_near) (defScope s__law_near) .none kV15 dc15 pm15 an15 cd15 ct15), sl15⟩)
    (c15 : PySem.W.codeIn K cd15 "_law_near" = true)
    (k15 : PySem.W.keepIn K (.ref f15) = true)
    (a16 : PySem.W.nsIn K mainGlobals "_law_long" = some (some (.ref f16)))
    (l16 : K.lookup f16 = some ⟨oc16, od16, .func (PySem.W.fnOf "_law_long" "_law_long" (defArgs s__law_long) (defBody s__law_long) (defScope s__law_long) .none kV16 dc16 pm16 an16 cd16 ct16), sl16⟩)
    (c16 : PySem.W.codeIn K cd16 "_law_long" = true)
    (k16 : PySem.W.keepIn K (.ref f16) = true)
    (a17 : PySem.W.nsIn K mainGlobals "_law_looked" = some (some (.ref f17)))
    (l17 : K.lookup f17 = some ⟨oc17, od17, .func (PySem.W.fnOf "_law_looked" "_law_looked" (defArgs s__law_looked) (defBody s__law_looked) (defScope s__law_looked) .none kV17 dc17 pm17 an17 cd17 ct17), sl17⟩)
    (c17 : PySem.W.codeIn K cd17 "_law_looked" = true)
    (k17 : PySem.W.keepIn K (.ref f17) = true)
    (a18 : PySem.W.nsIn K mainGlobals "_law_read_on" = some (some (.ref f18)))
    (l18 : K.lookup f18 = some ⟨oc18, od18, .func (PySem.W.fnOf "_law_read_on" "_law_read_on" (defArgs s__law_read_on) (defBody s__law_read_on) (defScope s__law_read_on) .none kV18 dc18 pm18 an18 cd18 ct18), sl18⟩)
    (c18 : PySem.W.codeIn K cd18 "_law_read_on" = true)
    (k18 : PySem.W.keepIn K (.ref f18) = true)
    (a19 : PySem.W.nsIn K mainGlobals "_law_closing" = some (some (.ref f19)))
    (l19 : K.lookup f19 = some ⟨oc19, od19, .func (PySem.W.fnOf "_law_closing" "_law_closing" (defArgs s__law_closing) (defBody s__law_closing) (defScope s__law_closing) .none kV19 dc19 pm19 an19 cd19 ct19), sl19⟩)
    (c19 : PySem.W.codeIn K cd19 "_law_closing" = true)
    (k19 : PySem.W.keepIn K (.ref f19) = true)
    (a20 : PySem.W.nsIn K mainGlobals "law" = some (some (.ref f20)))
    (l20 : K.lookup f20 = some ⟨oc20, od20, .func (PySem.W.fnOf "law" "law" (defArgs s_law) (defBody s_law) (defScope s_law) .none kV20 dc20 pm20 an20 cd20 ct20), sl20⟩)
    (c20 : PySem.W.codeIn K cd20 "law" = true)
    (k20 : PySem.W.keepIn K (.ref f20) = true)
    (pgC0 : PySem.W.plainGet K C0 Str.empty = true)
    (hdC0 : PySem.W.hasDictIn K C0 = true)
    (poC0 : PySem.W.plainOver K C0 = true)
    (saC0 : PySem.W.findIn K (.ref C0) "__setattr__" = some (some (.builtin "object.__setattr__")))
    (mkC0 : PySem.W.makesIn K C0 = true)
    (kcC0 : PySem.W.keepIn K (.ref C0) = true)
    (z_all : PySem.W.nsIn K mainGlobals "all" = some none)
    (z_bool : PySem.W.nsIn K mainGlobals "bool" = some none)
    (z_int : PySem.W.nsIn K mainGlobals "int" = some none)
    (z_isinstance : PySem.W.nsIn K mainGlobals "isinstance" = some none)
    (z_len : PySem.W.nsIn K mainGlobals "len" = some none)
    (z_list : PySem.W.nsIn K mainGlobals "list" = some none)
    (z_max : PySem.W.nsIn K mainGlobals "max" = some none)
    (z_min : PySem.W.nsIn K mainGlobals "min" = some none)
    (z_range : PySem.W.nsIn K mainGlobals "range" = some none)
    (z_str : PySem.W.nsIn K mainGlobals "str" = some none)
    (z_tuple : PySem.W.nsIn K mainGlobals "tuple" = some none)
    (na_Stopper_stops : PySem.W.findIn K (.ref C0) "stops" = some none)
    (na_Stopper_held : PySem.W.findIn K (.ref C0) "held" = some none)
    (na_Stopper_many : PySem.W.findIn K (.ref C0) "many" = some none)
    (na_Stopper_is_stopped : PySem.W.findIn K (.ref C0) "is_stopped" = some none)
    : ∃ fd : FuncData, (∀ (s : Shared) (v : Value), BindsTo s fd ⟨[v], []⟩ [("script", v)]) ∧ ∀ base : Heap, K.In base → base.Ns mainGlobals mg → FnOk l.prog w K mg base (L2.CX l.prog w) 11 fa fd ["script"] (lSp K spEnd) := by
  have e := hfa.symm.trans (PySem.W.mg_of X G a20)
  cases e
  have T : Txt K mg ⟨C0⟩ := ⟨PySem.W.mg_none_of X G z_all,
    PySem.W.mg_none_of X G z_bool,
    PySem.W.mg_none_of X G z_int,
    PySem.W.mg_none_of X G z_isinstance,
    PySem.W.mg_none_of X G z_len,
    PySem.W.mg_none_of X G z_list,
    PySem.W.mg_none_of X G z_max,
    PySem.W.mg_none_of X G z_min,
    PySem.W.mg_none_of X G z_range,
    PySem.W.mg_none_of X G z_str,
    PySem.W.mg_none_of X G z_tuple,
    ⟨_, _, fun_mk l1 c1 k1, PySem.W.mg_of X G a1, ((fun_mk l1 c1 k1).binds (ps := ["stops", "text"]) fun _ _ _ _ _ _ us hl => match us, hl with | [_, _], _ => rfl)⟩,
    ⟨_, _, fun_mk l2 c2 k2, PySem.W.mg_of X G a2, ((fun_mk l2 c2 k2).binds (ps := ["stops", "text"]) fun _ _ _ _ _ _ us hl => match us, hl with | [_, _], _ => rfl)⟩,
    ⟨f3, _, fun_mk l3 c3 k3, ⟨mkC0, a3, i3, kcC0⟩, ((fun_mk l3 c3 k3).binds (ps := ["self", "stops"]) fun _ _ _ _ _ _ us hl => match us, hl with | [_, _], _ => rfl)⟩,
    ⟨f4, _, fun_mk l4 c4 k4, ⟨a4, i4, k4⟩, ((fun_mk l4 c4 k4).binds (ps := ["self"]) fun _ _ _ _ _ _ us hl => match us, hl with | [_], _ => rfl)⟩,
    ⟨f5, _, fun_mk l5 c5 k5, ⟨a5, i5, k5⟩, ((fun_mk l5 c5 k5).binds (ps := ["self"]) fun _ _ _ _ _ _ us hl => match us, hl with | [_], _ => rfl)⟩,
    ⟨f6, _, fun_mk l6 c6 k6, ⟨a6, i6, k6⟩, ((fun_mk l6 c6 k6).binds (ps := ["self", "letter"]) fun _ _ _ _ _ _ us hl => match us, hl with | [_, _], _ => rfl)⟩,
    ⟨_, _, fun_mk l7 c7 k7, PySem.W.mg_of X G a7, ((fun_mk l7 c7 k7).binds (ps := ["script"]) fun _ _ _ _ _ _ us hl => match us, hl with | [_], _ => rfl)⟩,
    ⟨_, _, fun_mk l8 c8 k8, PySem.W.mg_of X G a8, ((fun_mk l8 c8 k8).binds (ps := ["hand", "many"]) fun _ _ _ _ _ _ us hl => match us, hl with | [_, _], _ => rfl)⟩,
    ⟨_, _, fun_mk l9 c9 k9, PySem.W.mg_of X G a9, ((fun_mk l9 c9 k9).binds (ps := ["told", "due"]) fun _ _ _ _ _ _ us hl => match us, hl with | [_, _], _ => rfl)⟩,
    ⟨_, _, fun_mk l10 c10 k10, PySem.W.mg_of X G a10, ((fun_mk l10 c10 k10).binds (ps := ["ends", "text"]) fun _ _ _ _ _ _ us hl => match us, hl with | [_, _], _ => rfl)⟩,
    ⟨_, _, fun_mk l11 c11 k11, PySem.W.mg_of X G a11, ((fun_mk l11 c11 k11).binds (ps := ["ends", "text"]) fun _ _ _ _ _ _ us hl => match us, hl with | [_, _], _ => rfl)⟩,
    ⟨_, _, fun_mk l12 c12 k12, PySem.W.mg_of X G a12, ((fun_mk l12 c12 k12).binds (ps := ["hand"]) fun _ _ _ _ _ _ us hl => match us, hl with | [_], _ => rfl)⟩,
    ⟨_, _, fun_mk l13 c13 k13, PySem.W.mg_of X G a13, ((fun_mk l13 c13 k13).binds (ps := ["hand", "alphabet", "least", "more"]) fun _ _ _ _ _ _ us hl => match us, hl with | [_, _, _, _], _ => rfl)⟩,
    ⟨_, _, fun_mk l14 c14 k14, PySem.W.mg_of X G a14, ((fun_mk l14 c14 k14).binds (ps := ["hand", "alphabet", "most"]) fun _ _ _ _ _ _ us hl => match us, hl with | [_, _, _], _ => rfl)⟩,
    ⟨_, _, fun_mk l15 c15 k15, PySem.W.mg_of X G a15, ((fun_mk l15 c15 k15).binds (ps := ["hand", "ends", "alphabet", "many"]) fun _ _ _ _ _ _ us hl => match us, hl with | [_, _, _, _], _ => rfl)⟩,
    ⟨_, _, fun_mk l16 c16 k16, PySem.W.mg_of X G a16, ((fun_mk l16 c16 k16).binds (ps := ["hand", "alphabet"]) fun _ _ _ _ _ _ us hl => match us, hl with | [_, _], _ => rfl)⟩,
    ⟨_, _, fun_mk l17 c17 k17, PySem.W.mg_of X G a17, ((fun_mk l17 c17 k17).binds (ps := ["stopper", "ends", "text", "state"]) fun _ _ _ _ _ _ us hl => match us, hl with | [_, _, _, _], _ => rfl)⟩,
    ⟨_, _, fun_mk l18 c18 k18, PySem.W.mg_of X G a18, ((fun_mk l18 c18 k18).binds (ps := ["stopper", "ends", "text", "state", "letter"]) fun _ _ _ _ _ _ us hl => match us, hl with | [_, _, _, _, _], _ => rfl)⟩,
    ⟨_, _, fun_mk l19 c19 k19, PySem.W.mg_of X G a19, ((fun_mk l19 c19 k19).binds (ps := []) fun _ _ _ _ _ _ us hl => match us, hl with | [], _ => rfl)⟩,
    ⟨_, _, fun_mk l20 c20 k20, PySem.W.mg_of X G a20, ((fun_mk l20 c20 k20).binds (ps := ["script"]) fun _ _ _ _ _ _ us hl => match us, hl with | [_], _ => rfl)⟩,
    ⟨pgC0, hdC0, poC0, saC0⟩,
    PySem.W.mg_of X G aC0,
    na_Stopper_stops,
    na_Stopper_held,
    na_Stopper_many,
    na_Stopper_is_stopped⟩
  exact ⟨PySem.W.fnOf "law" "law" (defArgs s_law) (defBody s_law) (defScope s_law) .none kV20 dc20 pm20 an20 cd20 ct20, fun s v => .of_eq rfl, fun base _ _ => okF_law T (fun_mk l20 c20 k20)⟩
end K90
open PySem PySem.W PyProof.Rows in
set_option maxRecDepth 100000 in
set_option maxHeartbeats 0 in
theorem PySem.Challenge.cw_everyasked_k90_whole_stoppers_letter_by_holds : PySem.Challenge.rw_everyasked_k90_whole_stoppers_letter_by.Holds := by
  w_on; o_law; k_head; (case hw => w_witness2)
  k_fill
  refine L2.walk_of (l := PySem.Challenge.rw_everyasked_k90_whole_stoppers_letter_by) (n := 63) (k := 11) (x := "script") (CX := fun w => L2.CX PySem.Challenge.rw_everyasked_k90_whole_stoppers_letter_by.prog w) (sp := fun w => DL.lSp _ K90.spEnd) rfl (by decide) rfl ⟨rfl, by decide, by decide⟩ (fun w h Y => PySem.W.kIn_of Y) ?F (fun _ H a ns hl ho hS => K90.spEnd_at hl hS) (fun _ _ _ _ _ h => DL.cx_no h)
  case F =>
    intro w mg fa h KX G hmg
    refine' K90.all_mk KX G hmg ?aC0 ?a1 ?l1 ?c1 ?k1 ?a2 ?l2 ?c2 ?k2 ?a3 ?i3 ?l3 ?c3 ?k3 ?a4 ?i4 ?l4 ?c4 ?k4 ?a5 ?i5 ?l5 ?c5 ?k5 ?a6 ?i6 ?l6 ?c6 ?k6 ?a7 ?l7 ?c7 ?k7 ?a8 ?l8 ?c8 ?k8 ?a9 ?l9 ?c9 ?k9 ?a10 ?l10 ?c10 ?k10 ?a11 ?l11 ?c11 ?k11 ?a12 ?l12 ?c12 ?k12 ?a13 ?l13 ?c13 ?k13 ?a14 ?l14 ?c14 ?k14 ?a15 ?l15 ?c15 ?k15 ?a16 ?l16 ?c16 ?k16 ?a17 ?l17 ?c17 ?k17 ?a18 ?l18 ?c18 ?k18 ?a19 ?l19 ?c19 ?k19 ?a20 ?l20 ?c20 ?k20 ?pgC0 ?hdC0 ?poC0 ?saC0 ?mkC0 ?kcC0 ?z_all ?z_bool ?z_int ?z_isinstance ?z_len ?z_list ?z_max ?z_min ?z_range ?z_str ?z_tuple ?na_Stopper_stops ?na_Stopper_held ?na_Stopper_many ?na_Stopper_is_stopped
    (case aC0 => k_is)
    (case a1 => k_is)
    (case l1 => k_is)
    (case c1 => k_is)
    (case k1 => k_is)
    (case a2 => k_is)
    (case l2 => k_is)
    (case c2 => k_is)
    (case k2 => k_is)
    (case a3 => k_is)
    (case i3 => k_is)
    (case l3 => k_is)
    (case c3 => k_is)
    (case k3 => k_is)
    (case a4 => k_is)
    (case i4 => k_is)
    (case l4 => k_is)
    (case c4 => k_is)
    (case k4 => k_is)
    (case a5 => k_is)
    (case i5 => k_is)
    (case l5 => k_is)
    (case c5 => k_is)
    (case k5 => k_is)
    (case a6 => k_is)
    (case i6 => k_is)
    (case l6 => k_is)
    (case c6 => k_is)
    (case k6 => k_is)
    (case a7 => k_is)
    (case l7 => k_is)
    (case c7 => k_is)
    (case k7 => k_is)
    (case a8 => k_is)
    (case l8 => k_is)
    (case c8 => k_is)
    (case k8 => k_is)
    (case a9 => k_is)
    (case l9 => k_is)
    (case c9 => k_is)
    (case k9 => k_is)
    (case a10 => k_is)
    (case l10 => k_is)
    (case c10 => k_is)
    (case k10 => k_is)
    (case a11 => k_is)
    (case l11 => k_is)
    (case c11 => k_is)
    (case k11 => k_is)
    (case a12 => k_is)
    (case l12 => k_is)
    (case c12 => k_is)
    (case k12 => k_is)
    (case a13 => k_is)
    (case l13 => k_is)
    (case c13 => k_is)
    (case k13 => k_is)
    (case a14 => k_is)
    (case l14 => k_is)
    (case c14 => k_is)
    (case k14 => k_is)
    (case a15 => k_is)
    (case l15 => k_is)
    (case c15 => k_is)
    (case k15 => k_is)
    (case a16 => k_is)
    (case l16 => k_is)
    (case c16 => k_is)
    (case k16 => k_is)
    (case a17 => k_is)
    (case l17 => k_is)
    (case c17 => k_is)
    (case k17 => k_is)
    (case a18 => k_is)
    (case l18 => k_is)
    (case c18 => k_is)
    (case k18 => k_is)
    (case a19 => k_is)
    (case l19 => k_is)
    (case c19 => k_is)
    (case k19 => k_is)
    (case a20 => k_is)
    (case l20 => k_is)
    (case c20 => k_is)
    (case k20 => k_is)
    (case pgC0 => k_is)
    (case hdC0 => k_is)
    (case poC0 => k_is)
    (case saC0 => k_is)
    (case mkC0 => k_is)
    (case kcC0 => k_is)
    (case z_all => k_is)
    (case z_bool => k_is)
    (case z_int => k_is)
    (case z_isinstance => k_is)
    (case z_len => k_is)
    (case z_list => k_is)
    (case z_max => k_is)
    (case z_min => k_is)
    (case z_range => k_is)
    (case z_str => k_is)
    (case z_tuple => k_is)
    (case na_Stopper_stops => k_is)
    (case na_Stopper_held => k_is)
    (case na_Stopper_many => k_is)
    (case na_Stopper_is_stopped => k_is)
